import PyProof.Rows.All
import Wide.All
import OpenK.AllK
import Wide.FinOn
import HandS.ForMost
import HandS.Evl
import HandS.Exc
import HandS.ExcField
import HandS.WordsExc
import HandS.HotCalls
import HandS.IsInst
import HandS.FStr
import HandS.ClsMeth
import HandS.Deep
import KE.KCallOwn
import KE.KFmtOwn
import HandS.Wide
import HandS.Gcd
import KE.KOpsOwn
import HandS.Defaults
import HandS.MakeKwOnly
import HandS.Zip
import HandS.Walk
import HandS.ExcInit
import HandS.Lambda
import PySem.Challenge.RW_unseenslopes_k03_ratios_reckoned
import HandS.EndOwn
import KE.KNestM
set_option Elab.async false
set_option linter.all false
set_option maxRecDepth 100000
set_option maxHeartbeats 4000000
namespace Mine
open PySem PySem.Spec PyProof.Rows L2
/-! ### clauses «except t as n», t any expression whose match is known -/
theorem fly_ext {B h h' : Heap} {l : List Env} {a : Addr} {Z : Obj → Prop} (k : ∀ b o, h.get? b = some o → h'.get? b = some o) (f : HandSPX.FlyingZ B l a Z h) : HandSPX.FlyingZ B l a Z h' := by
  obtain ⟨f1, f2, f3, oe, vs, T, oT, ts, h1, h2, h3, h4, h5, h6, h7, h8⟩ := f
  exact ⟨fun b o e => k b o (f1 b o e), f2, f3.of_keeps fun b o e _ => ⟨o, k b o e, rfl⟩, oe, vs, T, oT, ts, k _ _ h1, h2, h3, h4, h5, h6, k _ _ h7, h8⟩
theorem slots_ext {h h' : Heap} (k : ∀ b o, h.get? b = some o → h'.get? b = some o) : h.UpToSlots h' := fun b o e _ => ⟨o.slots, k b o e⟩
/-- the test of a clause: t is evaluated while a is handled, and its match with a is m of a's class -/
def ExcTest (X : Cx) (t : Expr) (m : Value → Option Bool) : Prop :=
  ∀ (a : Addr) (pn pins : List (Addr × Obj)) (s : Shared) (σ : L2.St) (H : Hp) (cls : Value) (b : Bool) (Q : Bool → Shared → Prop) (E : Value → Shared → Prop), Inv (X.suite a pn) pins σ H s →
    PySem.W.Looks (model X.prog X.w) s.heap (typeOf (.ref a)) cls → m cls = some b → (∀ h', (∀ q o, s.heap.get? q = some o → h'.get? q = some o) → Q b { s with heap := h' }) →
    wpAny (model X.prog X.w) (X.A.mark (some (.ref a))) (eval t X.env) (fun c s₁ => wpAny (model X.prog X.w) (X.A.mark (some (.ref a))) (excMatches (.ref a) c) Q E s₁) E s
theorem name_in {X : Cx} {x : Str} {c : Value} {np : Pos} (n : Names X x c) {a : Addr} {pn pins : List (Addr × Obj)} {s : Shared} {σ : L2.St} {H : Hp} (I : Inv (X.suite a pn) pins σ H s) {Q : Value → Shared → Prop} {E : Value → Shared → Prop} (q : Q c s) :
    wpAny (model X.prog X.w) (X.A.mark (some (.ref a))) (eval (.Name x np) X.env) Q E s := by
  obtain ⟨h1, h2, h3⟩ := n
  rcases h3 with h3 | ⟨h3, h4, h5⟩
  · exact ld_glob I h1 h3 q h2
  · exact ld_blt I h1 h3 h4 q h5 h2
theorem test1 {X : Cx} {x : Str} {c : Value} {np : Pos} (n : Names X x c) : ExcTest X (.Name x np) (fun cls => PySem.W.exmOne X.K cls c) := by
  intro a pn pins s σ H cls b Q E I L e q
  exact name_in n I ((PySem.W.exm_one I.kIn L e).here (q s.heap fun _ _ z => z))
theorem test2 {X : Cx} {x1 x2 : Str} {c1 c2 : Value} {p1 p2 p3 : Pos} {kk : Nat} (n1 : Names X x1 c1) (n2 : Names X x2 c2) : ExcTest X (.Tuple [.Name x1 p1, .Name x2 p2] kk p3) (fun cls => PySem.W.exmAny X.K cls [c1, c2]) := by
  intro a pn pins s σ H cls b Q E I L e q
  refine wpAny_Tuple (wpAny_items_cons (name_in n1 I (wpAny_items_cons (name_in n2 I (wpAny_items_nil ⟨by size_fits, ?_⟩)))))
  have kp : ∀ y o, s.heap.get? y = some o → (s.heap.push { cls := .type "tuple", data := .seq [c1, c2].toArray }).get? y = some o := fun _ _ z => Heap.get?_push_of_some _ z
  exact (PySem.W.exm_tup2 (I.kIn.keeps kp) (L.keeps kp) (Heap.get?_push_size s.heap rfl) e).here (q _ kp)
/-- what a clause asks: the match, its name's slot, its suite -/
structure Clause where
  m : Value → Option Bool
  i : Nat
  ts : Addr → Value → Option Addr → TS
def unname (D : Ends) (i : Nat) : Ends := ⟨fun σ H => D.nx (σ.set i none) H, D.rt, fun σ H => D.bk (σ.set i none) H, fun σ H => D.ct (σ.set i none) H⟩
def wClauses (Wout : WX) (D : Ends) : List Clause → WX
  | [] => Wout
  | c :: r => fun cls d σ H => ∃ b, c.m cls = some b ∧ (b = true → ∀ a, H a = none → c.ts a cls d (unname D c.i) (σ.set c.i (some (.ref a))) H) ∧ (b = false → wClauses Wout D r cls d σ H)
inductive ClausesOk (X : Cx) : List ExceptHandler → List Clause → Prop
  | nil : ClausesOk X [] []
  | cons {t : Expr} {n : Str} {c : Clause} {b₀ : Stmt} {suite : List Stmt} {hp : Pos} {hds : List ExceptHandler} {l : List Clause} (ht : ExcTest X t c.m) (hi : X.N[c.i]? = some n) (hl : X.env.kindOf n = some .local)
      (hsu : ∀ (a : Addr) (oe : Obj) (cls : Value) (d : Option Addr) (pn : List (Addr × Obj)), Zc cls d oe → (∃ vs, oe.data = .fields vs) → PSs (X.suite a ((a, oe) :: pn)) (b₀ :: suite) (c.ts a cls d)) (r : ClausesOk X hds l) :
      ClausesOk X (.ExceptHandler (some t) (some n) (b₀ :: suite) hp :: hds) (c :: l)
section
variable {X : Cx} {pins : List (Addr × Obj)} {Wout : WX} {D : Ends}
/-- a thrown exception on the ground at h meets the clauses -/
theorem meet_clauses (hs : X.stack = X.env :: X.outer) (hf : X.env.frame = some X.env.locals) (hN : X.N.Nodup) (tk : Takes X Wout) {a : Addr} {B : Heap} {sI : Shared} {σ : L2.St} {H : Hp} {cls : Value} {d : Option Addr}
    (J : Inv X pins σ H sI) (nb : ∀ b o, sI.heap.get? b = some o → b ∉ frs X.stack → B.get? b = some o) (na : H a = none) {hds : List ExceptHandler} {l : List Clause} (ok : ClausesOk X hds l) :
    ∀ (s : Shared), HandSPX.FlyingZ B (X.env :: X.outer) a (Zc cls d) s.heap → sI.heap.UpToSlots s.heap → s.os = sI.os → AllBare s.gens → wClauses Wout D l cls d σ H →
      wpAny (model X.prog X.w) X.A (handleBy (.ref a) X.env hds) (SP X pins D) X.xe s := by
  induction ok with
  | nil =>
    intro s fl up os ag hw
    refine wpAny_handleBy_nil ?_
    obtain ⟨_, _, _, oe, vs, T, oT, ts', he, _, hd, h1, _⟩ := id fl
    have go : wpAny (model X.prog X.w) X.A (setFlight (.ref a) X.env.frame) (fun _ s4 => wpAny (model X.prog X.w) X.A (throw (.ref a) : Sem Flow) (SP X pins D) X.xe s4) X.xe s := by
      rw [hf]
      exact HandSPX.setFlight_upZ fl fun h4 hh4 up4 => wpAny_throw (tk _ _ ⟨a, B, sI, pins, σ, H, cls, d, rfl, J, nb, up.trans up4, .inr (.inr (by rw [hs]; exact hh4)), na, os, ag, hw⟩)
    unfold PySem.passOn
    refine wpAny_bind (wpAny_field he hd h1 ?_)
    rw [if_neg (show ¬ ((Value.ref T == Value.none) = true) by simp)]
    first
      | exact wpAny_bind (wpAny_pure (wpAny_bind go))
      | exact wpAny_bind go
  | @cons t n c b₀ suite hp hds' l' ht hi hl hsu _ ih =>
    intro s fl up os ag hw
    obtain ⟨b, hb, yes, no⟩ := hw
    have J1 : Inv X pins σ H s := J.landed nb fl.1 up os ag
    have away : ∀ {h : Heap} {o : Obj} {vs : Array Value}, h.FunFrames B (X.env :: X.outer) → h.get? a = some o → o.data = .fields vs → a ≠ X.env.locals ∧ a ∉ X.fs := by
      intro h o vs ff e dd
      have nm : a ∉ frs (X.env :: X.outer) := by
        intro hm
        obtain ⟨_, o', e', hnf⟩ := ff.mem hm
        rw [e] at e'
        cases e'
        exact hnf _ dd
      refine ⟨fun z => nm (List.mem_filterMap.mpr ⟨X.env, List.mem_cons_self, by rw [hf, z]⟩), fun hm => ?_⟩
      obtain ⟨e2, he2, q⟩ := List.mem_filterMap.mp hm
      exact nm (List.mem_filterMap.mpr ⟨e2, List.mem_cons_of_mem _ he2, q⟩)
    obtain ⟨oe, vs, he, hz, hd⟩ := fl.there
    obtain ⟨nL, nF⟩ := away fl.2.2.1 he hd
    have S1 := J1.suite he hd na nL nF
    refine wpAny_handleBy_cons (codeAny_handlers_test ?_) (fun q => nomatch q)
    have LT : PySem.W.Looks (model X.prog X.w) s.heap (typeOf (.ref a)) cls := fun A Q E s' k q => wpAny_typeOf_ref (k _ _ he) (by rw [hz.1]; exact q)
    refine ht a _ [] s σ H cls b _ _ S1 LT hb fun h2 k2 => ?_
    have fl2 := fly_ext k2 fl
    have up2 : sI.heap.UpToSlots h2 := up.trans (slots_ext k2)
    cases b with
    | false => exact ih { s with heap := h2 } fl2 up2 os ag (no rfl)
    | true =>
      refine codeAny_handlers_suite_as (HandSPX.lands_againZ fl2 fun h4 fl4 up4 => ?_)
      have J4 : Inv X pins σ H { s with heap := h4 } := J.landed nb fl4.1 (up2.trans up4) os ag
      obtain ⟨oe4, vs4, he4, hz4, hd4⟩ := fl4.there
      have S4 := J4.suite he4 hd4 na nL nF
      refine store_ok (X := X.suite a ((a, oe4) :: (X.pn ++ pins))) (v := .ref a) S4 hN hi (.inl hl) rfl (fun s5 S5 => ?_) (.inr hl)
      refine wpAny_mono ((hsu a oe4 cls d (X.pn ++ pins) hz4 ⟨_, hd4⟩).run [] s5 _ H _ S5 (yes rfl a na)) (fun f s6 q6 => ?_) (fun _ _ z => z.elim)
      have back : ∀ {σ6 : L2.St} {H6 : Hp} {R : Shared → Prop}, Inv (X.suite a ((a, oe4) :: (X.pn ++ pins))) [] σ6 H6 s6 → (∀ s7, Inv X pins (σ6.set c.i none) H6 s7 → R s7) →
          wpAny (model X.prog X.w) X.A (do bindName X.env n .none; unbindBehindTheSuite X.env n hp) (fun _ s7 => R s7) X.xe s6 := fun S6 r => gone_ok (S6.unsuite J.ok) hN hi hl r
      cases f with
      | next =>
        obtain ⟨σ6, H6, S6, r6⟩ := q6
        exact back S6 fun s7 J7 => ⟨_, _, J7, r6⟩
      | brk =>
        obtain ⟨σ6, H6, S6, r6⟩ := q6
        exact back S6 fun s7 J7 => ⟨_, _, J7, r6⟩
      | cont =>
        obtain ⟨σ6, H6, S6, r6⟩ := q6
        exact back S6 fun s7 J7 => ⟨_, _, J7, r6⟩
      | ret u =>
        obtain ⟨v6, σ6, H6, S6, rv, r6⟩ := q6
        exact back S6 fun s7 J7 => ⟨_, _, _, J7, rv, r6⟩
/-- try: body, several clauses «except t as n: suite» -/
theorem ps_clauses {body : List Stmt} {h₀ : ExceptHandler} {hds : List ExceptHandler} {l : List Clause} {pos : Pos} {tb : WX → TS} (hs : X.stack = X.env :: X.outer) (hf : X.env.frame = some X.env.locals) (hN : X.N.Nodup) (tk : Takes X Wout)
    (hb : ∀ (W : WX) (pn : List (Addr × Obj)) (xe : Value → Shared → Prop), Takes (X.tr pn xe) W → PassesOwn (model X.prog X.w) X.A X.env xe → PSs (X.tr pn xe) body (tb W)) (hh : ClausesOk X (h₀ :: hds) l) :
    PS X (.Try body (h₀ :: hds) [] [] pos) (fun D σ H => tb (wClauses Wout D l) D σ H) := by
  refine ⟨fun pins s σ H D I h => ?_⟩
  have ok := I.ok
  have fr : X.A.frames = some (X.env :: X.outer) := by rw [ok.frames, hs]
  refine wpAny_Try_except ?_
  refine wpAny_mono ((hb (wClauses Wout D l) (X.pn ++ pins) _ (fun u s' xx => ?_) PassesOwn.looking).run [] s σ H D (I.toTry _) h) (fun f s1 q => ?_) (fun e s1 he => he)
  · obtain ⟨a, B, sI, pins', σ', H', cls, d, rfl, J', nb, up, sky, na, os, ag, hw⟩ := xx
    have sky' : Sky B (X.env :: X.outer) a (Zc cls d) X.env.locals s'.heap := by rw [← hs]; exact sky
    exact Sky.land Zc.steady fr hf sky' fun h3 fl3 up3 => meet_clauses hs hf hN tk (J'.ofTry ok) nb na hh { s' with heap := h3 } fl3 (up.trans up3) os ag hw
  · cases f with
    | next =>
      obtain ⟨σ1, H1, J1, r⟩ := q
      exact wpAny_execs_nil ⟨σ1, H1, J1.ofTry ok, r⟩
    | brk =>
      obtain ⟨σ1, H1, J1, r⟩ := q
      exact ⟨σ1, H1, J1.ofTry ok, r⟩
    | cont =>
      obtain ⟨σ1, H1, J1, r⟩ := q
      exact ⟨σ1, H1, J1.ofTry ok, r⟩
    | ret u =>
      obtain ⟨v1, σ1, H1, J1, rv, r⟩ := q
      exact ⟨v1, σ1, H1, J1.ofTry ok, rv, r⟩
end
end Mine
namespace Mine
open PySem PySem.Spec PyProof.Rows L2
/-! ### a field of the handled exception; a def that gets it as an argument -/
def tXg (K : PySem.W.Frag) (a : Addr) (cls : Value) (d : Option Addr) (f : Str) (te : TE) : TE := fun σ H Q => te σ H fun x H1 => x = .ref a ∧ ∃ (C dd : Addr) (fs : List (Str × V)) (v : V),
  cls = .ref C ∧ XfC K C ∧ PySem.W.findIn K (.ref C) f = some none ∧ d = some dd ∧ H1 dd = some (.xd fs) ∧ fs.lookup f = some v ∧ Q v H1
theorem pe_xg {X : Cx} {p : Addr × Obj} {cls : Value} {d : Option Addr} {e : Expr} {te : TE} {pos : Pos} {n : Str} (hp : p ∈ X.pn) (hz : Zc cls d p.2) (hf : ∃ vs, p.2.data = .fields vs) (he : PE X e te)
    (hb : attributeBase e n X.env (eval e X.env) = eval e X.env := by rfl) : PE X (.Attribute e n pos) (tXg X.K p.1 cls d n te) := by
  refine ⟨fun pins s σ H Q I h => ?_⟩
  refine attr_of hb (thn (he.run pins s σ H _ I h) fun u s1 hh => ?_)
  obtain ⟨x, H1, I1, rx, rfl, C, dd, fs, v, rfl, T, hno, rfl, ea, l, q⟩ := hh
  obtain rfl : u = Value.ref p.1 := rx
  have P1 := (I1.pin p (List.mem_append_left _ hp)).1
  obtain ⟨vs, hd⟩ := hf
  obtain ⟨mA, hns, hr⟩ := (show ObjOk X.prog X.w H1 s1.heap dd (.xd fs) from I1.hok dd _ ea)
  obtain ⟨od, ho, hl⟩ := lookIn_ns hns
  obtain ⟨u, hu, ru⟩ := RelO.some_of (v := v) (o := mA n) (by rw [← l]; exact hr n)
  have J : PySem.W.InstAt s1.heap p.1 p.2 C (some od) := ⟨P1, hz.1, by unfold PySem.W.notCls; rw [hd] <;> rfl, by rw [hz.2]; exact ho⟩
  exact HandSPX.exc_get I1.kIn J T.ga T.gg T.exC (PySem.W.findObj_own T.hdC hno rfl (by rw [hl, hu])) (handed_of ru) ⟨v, H1, I1.tok _, ru, q⟩
/-- what a def promises that is called while the exception at a (its class cls, its dict d) is handled -/
abbrev SpE := Addr → Value → Option Addr → List V → Hp → VK → Prop
structure FnE (P : Program) (w : World) (K : PySem.W.Frag) (mg : Str → Option Value) (base : Heap) (k : Nat) (f : Addr) (fd : FuncData) (ps : List Str) (sp : SpE) : Prop where
  len : ∀ a cls d vs H Q, sp a cls d vs H Q → vs.length = ps.length
  run : ∀ (A : Around) (outer : List Env) (s : Shared) (H : Hp) (args : Args) (us : List Value) (vs : List V) (Q : VK) (p : Addr × Obj) (cls : Value) (d : Option Addr), L2H.RoomH k A → L2H.PinOk outer H s p → Zc cls d p.2 → (∃ ws, p.2.data = .fields ws) →
    Env0 P w K mg base A outer s H → BindsTo s fd args (ps.zip us) → Vals vs us → sp p.1 cls d vs H Q → codeAny (model P w) A (.call (.ref f) args) (CR CX0 outer P w H s Q E0) s
section
variable {P : Program} {w : World} {K : PySem.W.Frag} {mg : Str → Option Value} {base : Heap}
theorem Fun.okE {x qual : Str} {st : Stmt} {f : Addr} {fd : FuncData} {N ps : List Str} {k : Nat} {sp : SpE} (F : Fun K x qual st f fd) (S : FnScope N ps (defScope st)) (len : ∀ a cls d vs H Q, sp a cls d vs H Q → vs.length = ps.length)
    (hbody : ∀ (cdv : Value) (A : Around) (outer : List Env) (s : Shared) (H : Hp) (vs : List V) (Q : VK) (p : Addr × Obj) (cls : Value) (d : Option Addr), L2H.RoomH k (A.deeper (envOfC qual (defScope st) s.heap.objs.size f cdv)) → Zc cls d p.2 → (∃ ws, p.2.data = .fields ws) →
      sp p.1 cls d vs H Q → ∃ t, PSs (L2H.cxH CX0 P w K mg base N qual (defScope st) f cdv A outer s H E0 p) (defBody st) t ∧ t { nx := fun _ H' => Q .non H', rt := Q } (L2.start N vs) H) : FnE P w K mg base (k + 1) f fd ps sp := by
  obtain ⟨oc, od, kV, doc, pm, an, cdv, ct, osl, rfl, lk, hcd⟩ := F.ex
  refine ⟨len, ?_⟩
  intro A outer s H args us vs Q p cls d hr hpin hz hf e0 hb r hsp
  have hl := len _ _ _ _ _ _ hsp
  have keeps := fun b o e => (e0.bs b o e).1
  have KX : K.In s.heap := e0.mod.kin.keeps keeps
  have kinds : ∀ y ∈ ps.zip us, (defScope st).names.lookup y.1 = some .local ∨ ((defScope st).names.lookup y.1 = some .cell ∧ ((cellsFrom (s.heap.objs.size + 1) (defScope st).names []).lookup y.1).isSome = true) := by
    rintro ⟨n, v⟩ hy
    rcases S.par n (List.of_mem_zip hy).1 with q | q
    · exact .inl q
    · exact .inr ⟨q, PySem.W.cellsFrom_some _ _ _ (.inl q)⟩
  refine codeAny_call_function hr.depth (KX _ _ lk) rfl S.co S.gen rfl (PySem.W.codeRec_of KX hcd) (hb _ _ _ _ (wpAny_newFunctionEnv_cells S.kind kinds fun env he s1 x => ?_))
  subst he
  refine ⟨(e0.mod.nolimit.keeps keeps).keeps x.toInCall.keep, codeAny_func ?_⟩
  obtain ⟨t, ht, hq⟩ := hbody cdv A outer s H vs Q p cls d (hr.deeper _) hz hf hsp
  have I : Inv (L2H.cxH CX0 P w K mg base N qual (defScope st) f cdv A outer s H E0 p) [] (L2.start N vs) H s1 := L2H.inv_startH S hpin e0 hl r x
  refine wpAny_mono (ht.run [] s1 _ H _ I hq) (fun fl s' hs => ?_) fun e s' hs => hs
  cases fl with
  | ret u =>
    obtain ⟨v, σ', H', J, rv, q⟩ := hs
    exact ⟨v, H', J.os, J.bare, J.base, J.hok, rv, q⟩
  | next =>
    obtain ⟨σ', H', J, q⟩ := hs
    exact ⟨V.non, H', J.os, J.bare, J.base, J.hok, rfl, q⟩
  | brk =>
    obtain ⟨_, _, _, q⟩ := hs
    exact q.elim
  | cont =>
    obtain ⟨_, _, _, q⟩ := hs
    exact q.elim
end
/-- f(e), while an exception is handled that f gets to know -/
def tCallE (sp : SpE) (a : Addr) (cls : Value) (d : Option Addr) (t : TA) : TE := fun σ H Q => t σ H fun vs H1 => sp a cls d vs H1 Q
theorem pe_callE {X : Cx} {k : Nat} {f : Addr} {fd : FuncData} {ps : List Str} {sp : SpE} {x : Str} {q pos : Pos} {e : Expr} {es : List Expr} {t : TA} {p : Addr × Obj} {cls : Value} {d : Option Addr} (F : FnE X.prog X.w X.K X.mg X.base k f fd ps sp) (hr : L2H.RoomH k X.A)
    (hp : p ∈ X.pn) (hz : Zc cls d p.2) (hf : ∃ ws, p.2.data = .fields ws) (hg : Gl X x) (hm : X.mg x = some (.ref f)) (hk : PySem.W.keepIn X.K (.ref f) = true) (hb : Binds X.K fd ps []) (ha : PA X (e :: es) t)
    (hdb : (x == ("__debug__" : Str)) = false := by decide) (he : starEach (e :: es) X.env = (false, eval e X.env) :: starEach es X.env := by rfl) (hpl : (backTo pos (starEach es X.env)).any (·.1) = false := by rfl) :
    PE X (.Call (.Name x q) (e :: es) [] pos) (tCallE sp p.1 cls d t) := by
  refine ⟨fun pins s σ H Q I h => ?_⟩
  refine wpAny_Call_Name_kw (ld_glob I hg hm ?_ hdb)
  refine PySem.W.callWith_K (h₀ := X.base) I.ok.mod.kin hk (thn (ha.run pos pins s σ H _ I h) fun us s1 ⟨vs, H1, I1, r, q1⟩ => ⟨I1.kIn, ?_⟩) he hpl
  have hl : us.length = ps.length := by rw [← r.length]; exact F.len _ _ _ _ _ _ q1
  have b := hb s1 us I1.kIn (by rw [List.append_nil]; exact hl)
  rw [List.append_nil] at b
  obtain ⟨p1, p2, p3, p4, p5⟩ := I1.pin p (List.mem_append_left _ hp)
  have hpin : L2H.PinOk X.stack H1 s1 p := ⟨p1, p2, fun hm => (List.mem_cons.mp (I1.stkSub p.1 hm)).elim p3 p4, p5⟩
  refine wpAny_call (codeAny_mono (F.run X.A X.stack s1 H1 ⟨us, []⟩ us vs Q p cls d hr hpin hz hf I1.env0 b r q1) fun rr s' hq => ?_)
  cases rr with
  | error er => exact (show False from hq).elim
  | ok fl =>
    cases fl with
    | ret u => exact I1.after hq
    | next => exact (show False from hq).elim
    | brk => exact (show False from hq).elim
    | cont => exact (show False from hq).elim
end Mine
namespace Mine
open PySem PySem.Spec PyProof.Rows L2
/-! ### in, not in: a tuple of data -/
section
variable {X : Cx}
def rInT (K : PySem.W.Frag) (neg : Bool) : R2 := fun x y H Q => ∃ d ds, Dp K H x d ∧ Dp K H y (.tuple ds) ∧ SeqAt.shaped d = true ∧ SeqAt.shaped (.tuple ds) = true ∧ Q (.bl (if neg then !(ds.any fun z => PyData.eqv z d) else ds.any fun z => PyData.eqv z d)) H
theorem room_T {A : Around} {ds : List PyData} {d : PyData} (sd : SeqAt.shaped d = true) (hu : A.units + 65 < cLine) : A.units + 1 + min (PyData.depthAll ds) d.depth < cLine := by
  have h1 := SeqAt.depth_of_shaped sd
  have h2 : min (PyData.depthAll ds) d.depth ≤ d.depth := Nat.min_le_right _ _
  omega
theorem op_inT (hu : X.A.units + 65 < cLine) : OpR X (compareOp .In) (rInT X.K false) := by
  intro pins s σ H x y v u Q I rx ry h
  obtain ⟨d, ds, hd, he, sd, se, q⟩ := h
  obtain ⟨as, r1⟩ := Dp.reads I d x v hd rx
  obtain ⟨bs, r2⟩ := Dp.reads I (.tuple ds) y u he ry
  exact SeqAt.in_tuple_reads r2 r1 (SeqAt.canLay_of_shaped se) (SeqAt.canLay_of_shaped sd) (room_T sd hu) ⟨.bl _, H, I, rfl, q⟩
theorem op_notInT (hu : X.A.units + 65 < cLine) : OpR X (compareOp .NotIn) (rInT X.K true) := by
  intro pins s σ H x y v u Q I rx ry h
  obtain ⟨d, ds, hd, he, sd, se, q⟩ := h
  obtain ⟨as, r1⟩ := Dp.reads I d x v hd rx
  obtain ⟨bs, r2⟩ := Dp.reads I (.tuple ds) y u he ry
  exact SeqAt.notIn_tuple_reads r2 r1 (SeqAt.canLay_of_shaped se) (SeqAt.canLay_of_shaped sd) (room_T sd hu) ⟨.bl _, H, I, rfl, q⟩
end
/-! ### static methods off the class -/
structure SMet (K : PySem.W.Frag) (C : Addr) (mc : Value) (m : Str) (p g : Addr) : Prop where
  at_ : PySem.W.findCls K (.ref C) mc m = some (.get (.builtin "staticmethod.__get__") (.ref p) .none (.ref C))
  rc : ∃ rest, PySem.W.recIn K p "staticmethod" = some (.ref g :: rest)
  kp : PySem.W.keepIn K (.ref g) = true
/-- C.m(..) -/
def tSMeth (C : Addr) (sp : Sp) (dvs : List V) (E : XK) (ta : TE) (t : TA) : TE := fun σ H Q => ta σ H fun x H1 => x = .ref C ∧ t σ H1 fun vs H2 => sp (vs ++ dvs) H2 Q E
section
variable {X : Cx} {CX : CXT} {k : Nat} {C p g : Addr} {mc : Value} {m : Str} {fd : FuncData} {ps : List Str} {sp : Sp} {dvs : List V} {ds : List Value} {E : XK} {o e : Expr} {es : List Expr} {ta : TE} {t : TA} {apos pos : Pos}
theorem getmethsm {pins : List (Addr × Obj)} {σ : L2.St} {H : Hp} {s : Shared} {A : Around} {E : Value → Shared → Prop} {pl : Sem Bool} {Q : Value × List Value → Shared → Prop} (I : Inv X pins σ H s) (r : ClX.CRead X.K C mc) (c : SMet X.K C mc m p g)
    (h : ∀ s', Inv X pins σ H s' → Q (.ref g, []) s') : wpAny (model X.prog X.w) A (getMethod (.ref C) m pl) Q E s := by
  obtain ⟨rest, hp⟩ := c.rc
  exact PySem.W.method_cls I.kIn r.ga (PySem.W.cls_bind I.kIn r.rd c.at_ (wpAny_call (PySem.W.sm_get (s := { s with toks := s.toks + 1 }) I.kIn hp (PySem.W.handed_on rfl (h _ (I.tok _))))))
theorem pe_smeth {pl : Sem Bool} (he : PE X o ta) (r : ClX.CRead X.K C mc) (c : SMet X.K C mc m p g) (F : FnOk X.prog X.w X.K X.mg X.base CX k g fd ps sp) (hr : Room k X.A) (hb : Binds X.K fd ps ds) (hd : Vals dvs ds) (hx : Passes CX X E) (ha : PA X (e :: es) t)
    (hst : starEach (e :: es) X.env = (false, eval e X.env) :: starEach es X.env := by rfl) (hpl : (backTo pos (starEach es X.env)).any (·.1) = false := by rfl)
    (ht : eval (.Call (.Attribute o m apos) (e :: es) [] pos) X.env = (do
      let ov ← eval o X.env
      standAt apos.atName
      let (f, first) ← holding [ov] (getMethod ov m pl)
      callWith pos f first (backTo pos (starEach (e :: es) X.env)) (backToKw pos (keywordEach [] X.env))) := by rfl) :
    PE X (.Call (.Attribute o m apos) (e :: es) [] pos) (tSMeth C sp dvs E ta t) := by
  refine ⟨fun pins s σ H Q I h => ?_⟩
  refine PySem.W.methodCall_KW (pl := pl) (thn (he.run pins s σ H _ I h) fun u s1 ⟨x, H1, I1, rx, ex, q⟩ => ?_) ht
  subst ex
  obtain rfl : u = Value.ref C := rx
  refine getmethsm I1 r c fun s2 I2 => ?_
  exact PySem.W.callWith_K (first := []) (h₀ := X.base) I.ok.mod.kin c.kp (thn (ha.run pos pins s2 σ H1 _ I2 q) fun us s3 ⟨vs, H2, I3, rv, q2⟩ => ⟨I3.kIn, run_fn F hr hb hd hx I3 rv q2⟩) hst hpl
theorem pe_smeth0 {pl : Sem Bool} (he : PE X o ta) (r : ClX.CRead X.K C mc) (c : SMet X.K C mc m p g) (F : FnOk X.prog X.w X.K X.mg X.base CX k g fd ps sp) (hr : Room k X.A) (hb : Binds X.K fd ps ds) (hd : Vals dvs ds) (hx : Passes CX X E)
    (ht : eval (.Call (.Attribute o m apos) [] [] pos) X.env = (do
      let ov ← eval o X.env
      standAt apos.atName
      let (f, first) ← holding [ov] (getMethod ov m pl)
      callWith pos f first (backTo pos (starEach [] X.env)) (backToKw pos (keywordEach [] X.env))) := by rfl) :
    PE X (.Call (.Attribute o m apos) [] [] pos) (tSMeth C sp dvs E ta tNil) := by
  refine ⟨fun pins s σ H Q I h => ?_⟩
  refine PySem.W.methodCall_KW (pl := pl) (thn (he.run pins s σ H _ I h) fun u s1 ⟨x, H1, I1, rx, ex, q⟩ => ?_) ht
  subst ex
  obtain rfl : u = Value.ref C := rx
  refine getmethsm I1 r c fun s2 I2 => ?_
  exact PySem.W.callWith_K0 (first := []) I2.kIn c.kp (run_fn (us := []) F hr hb hd hx I2 .nil q)
end
/-! ### special methods of an instance: ==, !=, str, repr, an f-string's field -/
section
variable {X : Cx} {CX : CXT} {k : Nat} {C f : Addr} {fd : FuncData} {ps : List Str} {sp : Sp} {E : XK}
/-- the def runs in the surroundings A, which have the frames of X -/
theorem run_at {pins : List (Addr × Obj)} {σ : L2.St} {H : Hp} {s : Shared} {Q : VK} {us : List Value} {vs : List V} {A : Around} (F : FnOk X.prog X.w X.K X.mg X.base CX0 k f fd ps sp) (hr : Room k A) (hA : A.frames = X.A.frames) (hb : Binds X.K fd ps []) (I : Inv X pins σ H s) (r : Vals vs us) (h : sp vs H Q E0)
    {E' : Value → Shared → Prop} : wpAny (model X.prog X.w) A (call (.ref f) us) (EP X pins σ Q) E' s := by
  have hl : us.length = ps.length := by rw [← r.length]; exact F.len _ _ _ _ h
  have b := hb s us I.kIn (by rw [List.append_nil]; exact hl)
  rw [List.append_nil] at b
  have e := I.env0
  have e0 : Env0 X.prog X.w X.K X.mg X.base A X.stack s H := ⟨by rw [hA]; exact e.frames, e.mod, e.bs, e.bsz, e.funs, e.frf, e.hok, e.bare⟩
  refine wpAny_call (codeAny_mono (F.run A X.stack s H ⟨us, []⟩ us vs Q E0 hr e0 b r h) fun rr s' hq => ?_)
  cases rr with
  | error er => exact (show False from hq).elim
  | ok fl =>
    cases fl with
    | ret u => exact I.after hq
    | next => exact (show False from hq).elim
    | brk => exact (show False from hq).elim
    | cont => exact (show False from hq).elim
/-- what the class says of a special method of its own -/
structure Spec (K : PySem.W.Frag) (C : Addr) (m : Str) (f : Addr) : Prop where
  at_ : PySem.W.findIn K (.ref C) m = some (some (.ref f))
  fn : PySem.W.isFn K (.ref f) = true
theorem ty_looks {pins : List (Addr × Obj)} {σ : L2.St} {H : Hp} {s : Shared} {y : V} {u t : Value} (I : Inv X pins σ H s) (ry : RelV y u) (ty : TyX X.K H y t) {M : Model} : PySem.W.Looks M s.heap (typeOf u) t := by
  obtain ⟨P, Z, p, _⟩ := kit_of I ry ty
  exact Z.ty M s.heap I.kIn p
/-- x == y, x an instance whose class has an own __eq__ that gives a bool -/
def rEqO (K : PySem.W.Frag) (C : Addr) (sp : Sp) (neg : Bool) : R2 := fun x y H Q => ∃ a dx fs tb, x = .ref a ∧ H a = some (.ins C dx fs) ∧ TyX K H y tb ∧ PySem.W.notFirst K C tb = true ∧ sp [x, y] H (fun v H' => ∃ b, v = .bl b ∧ Q (.bl (if neg then !b else b)) H') E0
theorem op_eqO (F : FnOk X.prog X.w X.K X.mg X.base CX0 k f fd ps sp) (S : Spec X.K C "__eq__" f) (hr : Room k X.A) (hb : Binds X.K fd ps []) : OpR X (compareOp .Eq) (rEqO X.K C sp false) := by
  intro pins s σ H x y v u Q I rx ry h
  obtain ⟨a, dx, fs, tb, rfl, ha, ty, hn, q⟩ := h
  obtain rfl : v = Value.ref a := rx
  obtain ⟨mA, J, _⟩ := ins_get I.hok ha
  obtain ⟨od, J, _⟩ := J.look
  obtain ⟨m, hF⟩ := I.fr
  show wpAny (model X.prog X.w) X.A (richCompare .Eq (.ref a) u) (EP X pins σ Q) X.xe s
  refine PySem.W.cmp_K (op := .Eq) (tb := tb) hr.units0 hF I.ok.mod.kin J (ty_looks I ry ty) hn S.at_ S.fn ?_
  refine wpAny_mono (run_at (vs := [.ref a, y]) (us := [.ref a, u]) F hr rfl hb I (.cons rfl (.cons ry .nil)) q) (fun r s' z => ?_) fun _ _ z => z
  obtain ⟨z, H', I', rz, b, rfl, q'⟩ := z
  obtain rfl : r = Value.bool b := rz
  exact ⟨.bl b, H', I', rfl, q'⟩
theorem ifBoundB {M : Model} {A : Around} {E : Value → Shared → Prop} {s : Shared} {K : PySem.W.Frag} {x C : Addr} {ox : Obj} {od : Option Obj} {name : Str} {id : String} {args : List Value} {Q : Option Value → Shared → Prop} (KX : K.In s.heap) (J : PySem.W.InstAt s.heap x ox C od)
    (hs : PySem.W.findIn K (.ref C) name = some (some (.builtin id))) (hb : ∀ self, bindSpecial (.builtin id) self = pure (.builtin id, [self])) (h : wpAny M A (call (.builtin id) (.ref x :: args)) (fun v => Q (some v)) E s) : wpAny M A (callSpecialIfBound? (.ref x) name args) Q E s := by
  have fin : wpAny M A (call (.builtin id) ([.ref x] ++ args) >>= fun v => pure (some v)) Q E s := wpAny_bind (wpAny_mono h (fun _ _ z => wpAny_pure z) fun _ _ z => z)
  simp only [callSpecialIfBound?, bindSpecialIfBound?]
  refine wpAny_holding (wpAny_bind (wpAny_bind (wpAny_bind (J.type.here ((PySem.W.looks_findIn KX hs).here (wpAny_bind (wpAny_askSetting (wpAny_ite ?_))))))))
  split
  · exact wpAny_bind ((PySem.W.Looks.of_pure (hb _)).here (wpAny_pure (by exact fin)))
  · exact wpAny_tryCatch (wpAny_bind ((PySem.W.Looks.of_pure (hb _)).here (wpAny_pure (by exact fin))))
open Builtin in
theorem op_neO (F : FnOk X.prog X.w X.K X.mg X.base CX0 k f fd ps sp) (S : Spec X.K C "__eq__" f) (hne : PySem.W.findIn X.K (.ref C) "__ne__" = some (some (.builtin "object.__ne__"))) (hm : PySem.W.mroIn X.K C (.type "object") = some true) (hr : Room (k + 1) X.A) (hb : Binds X.K fd ps []) :
    OpR X (compareOp .NotEq) (rEqO X.K C sp true) := by
  intro pins s σ H x y v u Q I rx ry h
  obtain ⟨a, dx, fs, tb, rfl, ha, ty, hn, q⟩ := h
  obtain rfl : v = Value.ref a := rx
  obtain ⟨mA, J, _⟩ := ins_get I.hok ha
  obtain ⟨od, J, _⟩ := J.look
  have KX := I.kIn
  have hr1 : Room k X.A.in1 := hr.in1
  have bind : ∀ self : Value, bindSpecial (.builtin "object.__ne__") self = pure (.builtin "object.__ne__", [self]) := fun self => by with_unfolding_all rfl
  have inner : wpAny (model X.prog X.w) X.A (call (.builtin "object.__ne__") [.ref a, u]) (fun r s' => ∃ b, r = Value.bool b ∧ EP X pins σ Q r s') X.xe s := by
    refine wpAny_call (codeAny_call_builtin (by decide +kernel) PySem.F.cmpEntry_ne (PySem.W.check_slot PySem.F.cmpKind_ne PySem.F.cmpSplit_ne (J.type.andThen (PySem.W.looks_mroIn KX hm)) (PySem.F.cmpArgs_ne _ _) ?_))
    unfold Builtin.«object.__ne__»
    refine wpAny_bind (m := slotArgs "__ne__" 1 _) (wpAny_pure ?_)
    refine wpAny_bind (m := cRoomFor _ _) (wpAny_cRoomFor hr1.units0 ?_)
    refine wpAny_bind (m := callSpecialIfBound? (.ref a) (Str.ofString "__eq__") [u]) (PySem.W.ifBound_K KX J S.at_ S.fn ?_)
    refine wpAny_mono (run_at (vs := [.ref a, y]) (us := [.ref a, u]) F hr1 rfl hb I (.cons rfl (.cons ry .nil)) q) (fun r s' z => ?_) fun _ _ z => z
    obtain ⟨z, H', I', rz, b, rfl, q'⟩ := z
    obtain rfl : r = Value.bool b := rz
    refine wpAny_bind (m := truthy (.bool b)) (wpAny_truthy_bool ?_)
    exact wpAny_pure ⟨!b, rfl, .bl (!b), H', I', rfl, q'⟩
  have one : wpAny (model X.prog X.w) X.A (tryCompare (.ref a) "__ne__" u) (fun r s' => ∃ v, r = some v ∧ EP X pins σ Q v s') X.xe s := by
    unfold tryCompare
    refine wpAny_bind (ifBoundB KX J hne bind (wpAny_mono inner (fun r s' z => ?_) fun _ _ z => z))
    obtain ⟨b, rfl, z⟩ := z
    exact wpAny_pure ⟨_, rfl, z⟩
  show wpAny (model X.prog X.w) X.A (richCompare .NotEq (.ref a) u) (EP X pins σ Q) X.xe s
  unfold richCompare
  simp only [oneThing_ref]
  refine wpAny_holding (wpAny_bind (wpAny_cRoomFor hr.units0 (wpAny_bind (J.type.here (wpAny_bind ((ty_looks I ry ty).here ?_))))))
  split
  · rename_i c
    have e : PySem.W.subIn X.K tb (.ref C) = some false := by
      rcases Bool.or_eq_true_iff.mp hn with e | e
      · rw [beq_iff_eq.mp e] at c
        simp at c
      · exact beq_iff_eq.mp e
    refine wpAny_bind ((PySem.W.looks_subIn KX e).here ?_)
    simp only [Bool.false_eq_true, if_false]
    refine wpAny_bind (wpAny_mono one (fun r s' z => ?_) fun _ _ z => z)
    obtain ⟨v, rfl, z⟩ := z
    exact wpAny_pure z
  · refine wpAny_bind (wpAny_pure ?_)
    simp only [Bool.false_eq_true, if_false]
    refine wpAny_bind (wpAny_mono one (fun r s' z => ?_) fun _ _ z => z)
    obtain ⟨v, rfl, z⟩ := z
    exact wpAny_pure z
end
end Mine
namespace Mine
open PySem PySem.Spec PyProof.Rows L2
/-! ### the text of an instance by its own __str__, __repr__ -/
def spStrs (C : Addr) (sp : Sp) (x : V) (H : Hp) (Q : VK) : Prop := ∃ a dx fs, x = .ref a ∧ H a = some (.ins C dx fs) ∧ sp [x] H (fun v H' => ∃ z, v = .str z ∧ Q (.str z) H') E0
def rStrO (C : Addr) (sp : Sp) : List V → Hp → VK → Prop := fun xs H Q => ∃ x, xs = [x] ∧ spStrs C sp x H Q
def tFmtO (C : Addr) (sp : Sp) (te : TE) : TE := fun σ H Q => te σ H fun x H1 => spStrs C sp x H1 Q
section
variable {X : Cx} {k : Nat} {C f : Addr} {fd : FuncData} {ps : List Str} {sp : Sp}
theorem str_at {pins : List (Addr × Obj)} {σ : L2.St} {H : Hp} {s : Shared} {Q : VK} {A : Around} {E' : Value → Shared → Prop} {a : Addr} (F : FnOk X.prog X.w X.K X.mg X.base CX0 k f fd ps sp) (hr : Room k A) (hA : A.frames = X.A.frames) (hb : Binds X.K fd ps []) (I : Inv X pins σ H s)
    (q : sp [.ref a] H (fun v H' => ∃ z, v = .str z ∧ Q (.str z) H') E0) : wpAny (model X.prog X.w) A (call (.ref f) [.ref a]) (PySem.W.StrBack (EP X pins σ Q)) E' s := by
  refine wpAny_mono (run_at (vs := [.ref a]) (us := [.ref a]) F hr hA hb I (.cons rfl .nil) q) (fun r s' z => ?_) fun _ _ z => z
  obtain ⟨v, H', I', rv, z, rfl, q'⟩ := z
  obtain ⟨t, rfl⟩ := rv
  exact ⟨.str z, H', I', ⟨t, rfl⟩, q'⟩
theorem call_strO (F : FnOk X.prog X.w X.K X.mg X.base CX0 k f fd ps sp) (S : Spec X.K C "__str__" f) (hr : Room (k + 2) X.A) (hb : Binds X.K fd ps []) : CallR X (.type "str") (rStrO C sp) := by
  intro pins s σ H xs us Q I r h
  obtain ⟨x, rfl, a, dx, fs, rfl, ha, q⟩ := h
  obtain ⟨u, rfl, rx⟩ := vals1 r
  obtain rfl : u = Value.ref a := rx
  obtain ⟨mA, J, _⟩ := ins_get I.hok ha
  obtain ⟨od, J, _⟩ := J.look
  have hr2 : Room k X.A.in1.in1 := hr.in1.in1
  exact PySem.W.kso_call hr2.units0 I.kIn J S.at_ S.fn (str_at F hr2 rfl hb I q)
theorem call_reprO (F : FnOk X.prog X.w X.K X.mg X.base CX0 k f fd ps sp) (S : Spec X.K C "__repr__" f) (hr : Room (k + 1) X.A) (hb : Binds X.K fd ps []) : CallR X (.builtin "repr") (rStrO C sp) := by
  intro pins s σ H xs us Q I r h
  obtain ⟨x, rfl, a, dx, fs, rfl, ha, q⟩ := h
  obtain ⟨u, rfl, rx⟩ := vals1 r
  obtain rfl : u = Value.ref a := rx
  obtain ⟨mA, J, _⟩ := ins_get I.hok ha
  obtain ⟨od, J, _⟩ := J.look
  obtain ⟨m, hF⟩ := I.fr
  have hr1 : Room k X.A.in1 := hr.in1
  exact PySem.W.repr_K hr1.units0 hF I.ok.mod.kin J S.at_ S.fn (str_at F hr1 rfl hb I q)
/-- the class's texts are asked by an f-string's field -/
structure FmtC (K : PySem.W.Frag) (C : Addr) : Prop where
  fm : PySem.W.findIn K (.ref C) "__format__" = some (some (.builtin "object.__format__"))
  ob : PySem.W.mroIn K C (.type "object") = some true
theorem pe_fmtO {e : Expr} {te : TE} {pos : Pos} (F : FnOk X.prog X.w X.K X.mg X.base CX0 k f fd ps sp) (S : Spec X.K C "__str__" f) (M : FmtC X.K C) (hr : Room (k + 1) X.A) (hb : Binds X.K fd ps []) (he : PE X e te) : PE X (.FormattedValue e (-1) none pos) (tFmtO C sp te) := by
  refine ⟨fun pins s σ H Q I h => ?_⟩
  refine wpAny_FormattedValue_plain (thn (he.run pins s σ H _ I h) fun v s1 hv => ?_)
  obtain ⟨x, H1, I1, rx, a, dx, fs, rfl, ha, q⟩ := hv
  obtain rfl : v = Value.ref a := rx
  obtain ⟨mA, J, _⟩ := ins_get I1.hok ha
  obtain ⟨od, J, _⟩ := J.look
  have hr1 : Room k X.A.in1 := hr.in1
  exact PySem.W.kfo_fieldS hr1.units0 I1.kIn J M.fm M.ob S.at_ S.fn (str_at F hr1 rfl hb (I1.tok _) q)
end
end Mine
namespace Mine
open PySem PySem.Spec PyProof.Rows L2
/-! ### code that is never reached -/
def tDead : TE := fun _ _ _ => False
section
variable {X : Cx}
theorem pe_dead {e : Expr} : PE X e tDead := ⟨fun _ _ _ _ _ _ h => h.elim⟩
/-! ### one rule or another -/
theorem op_any {f : Value → Value → Sem Value} {r1 r2 : R2} (h1 : OpR X f r1) (h2 : OpR X f r2) : OpR X f (fun x y H Q => r1 x y H Q ∨ r2 x y H Q) := fun pins s σ H x y v u Q I rx ry h => h.elim (h1 pins s σ H x y v u Q I rx ry) (h2 pins s σ H x y v u Q I rx ry)
theorem un_any {f : Value → Sem Value} {r1 r2 : V → Hp → VK → Prop} (h1 : UnR X f r1) (h2 : UnR X f r2) : UnR X f (fun x H Q => r1 x H Q ∨ r2 x H Q) := fun pins s σ H x v Q I rx h => h.elim (h1 pins s σ H x v Q I rx) (h2 pins s σ H x v Q I rx)
theorem call_any {f : Value} {r1 r2 : List V → Hp → VK → Prop} (h1 : CallR X f r1) (h2 : CallR X f r2) : CallR X f (fun x H Q => r1 x H Q ∨ r2 x H Q) := fun pins s σ H x v Q I rx h => h.elim (h1 pins s σ H x v Q I rx) (h2 pins s σ H x v Q I rx)
/-! ### // by any divisor below 2 ^ 9000 -/
def CDivG (_ j : Int) : Prop := j ≠ 0 ∧ j.natAbs.log2 < 9000
theorem op_fdivG : OpR X (binaryOp .FloorDiv) (rI CDivG fun i j => .int (i.fdiv j)) := opI fun _ _ _ _ _ _ _ hc q => floordiv_int hc.1 q (.inl (PyProof.noPylong_of_log2 hc.2))
end
/-! ### operators of own classes -/
/-- what is known of the operator nm of the class at C: f its own def, g the reflected one -/
structure OpC (K : PySem.W.Frag) (C : Addr) (nm : String) (f g : Addr) : Prop where
  sf : PySem.W.selfFirst K C = true
  hs : PySem.W.findIn K (.ref C) (PySem.dunder nm) = some (some (.ref f))
  hf : PySem.W.isFn K (.ref f) = true
  hr : PySem.W.findIn K (.ref C) (dunderR nm) = some (some (.ref g))
  hg : PySem.W.isFn K (.ref g) = true
  s1 : PySem.W.subIn K (.type "int") (.ref C) = some false
  s2 : PySem.W.subIn K (.ref C) (.type "int") = some false
section
variable {X : Cx} {k : Nat} {C f g : Addr} {fd : FuncData} {ps : List Str} {sp : Sp} {op : Operator}
theorem cmpBack_of {pins : List (Addr × Obj)} {σ : L2.St} {Q : VK} {u : Value} {s : Shared} (h : EP X pins σ Q u s) : PySem.W.CmpBack (EP X pins σ Q) u s := by
  cases u <;> first | exact h | skip
  obtain ⟨x, H, I, r, _⟩ := h
  cases x <;> first | (obtain ⟨_, h⟩ := r; cases h) | cases r
/-- x op y, both instances -/
def rBinO (C : Addr) (sp : Sp) : R2 := fun x y H Q => ∃ a dx fs b dy gs, x = .ref a ∧ y = .ref b ∧ H a = some (.ins C dx fs) ∧ H b = some (.ins C dy gs) ∧ sp [x, y] H Q E0
theorem op_binO (F : FnOk X.prog X.w X.K X.mg X.base CX0 k f fd ps sp) (S : OpC X.K C op.info.2 f g) (hr : Room k X.A) (hb : Binds X.K fd ps []) : OpR X (binaryOp op) (rBinO C sp) := by
  intro pins s σ H x y v u Q I rx ry h
  obtain ⟨a, dx, fs, b, dy, gs, rfl, rfl, ha, hb', q⟩ := h
  obtain rfl : v = Value.ref a := rx
  obtain rfl : u = Value.ref b := ry
  obtain ⟨mA, J, _⟩ := ins_get I.hok ha
  obtain ⟨od, J, _⟩ := J.look
  obtain ⟨mB, J2, _⟩ := ins_get I.hok hb'
  obtain ⟨od2, J2, _⟩ := J2.look
  obtain ⟨m, hF⟩ := I.fr
  refine PySem.W.binop_K (op := op) hF I.ok.mod.kin J J2.type S.sf S.hs S.hf ?_
  exact wpAny_mono (run_at (vs := [.ref a, .ref b]) (us := [.ref a, .ref b]) F hr rfl hb I (.cons rfl (.cons rfl .nil)) q) (fun r s' z => cmpBack_of z) fun _ _ z => z
/-- x op y, x an instance, y an int -/
def rBinI (C : Addr) (sp : Sp) : R2 := fun x y H Q => ∃ a dx fs i, x = .ref a ∧ y = .int i ∧ H a = some (.ins C dx fs) ∧ sp [x, y] H Q E0
theorem op_binI {fo ro : Option Value} (F : FnOk X.prog X.w X.K X.mg X.base CX0 k f fd ps sp) (S : OpC X.K C op.info.2 f g) (h1 : PySem.W.findIn X.K (.type "int") (PySem.dunder op.info.2) = some fo) (h2 : PySem.W.findIn X.K (.type "int") (dunderR op.info.2) = some ro)
    (hr : Room k X.A) (hb : Binds X.K fd ps []) : OpR X (binaryOp op) (rBinI C sp) := by
  intro pins s σ H x y v u Q I rx ry h
  obtain ⟨a, dx, fs, i, rfl, rfl, ha, q⟩ := h
  obtain rfl : v = Value.ref a := rx
  obtain ⟨t, rfl⟩ := ry
  obtain ⟨mA, J, _⟩ := ins_get I.hok ha
  obtain ⟨od, J, _⟩ := J.look
  obtain ⟨m, hF⟩ := I.fr
  refine PySem.W.ksp_binT (op := op) (T := "int") hF I.ok.mod.kin J rfl S.sf S.hs S.hf S.hr (.inr ⟨g, rfl⟩) h1 h2 S.s1 ?_
  exact wpAny_mono (run_at (vs := [.ref a, .int i]) (us := [.ref a, .int i t]) F hr rfl hb I (.cons rfl (.cons ⟨t, rfl⟩ .nil)) q) (fun r s' z => cmpBack_of z) fun _ _ z => z
/-- -x -/
def rUnO (C : Addr) (sp : Sp) : V → Hp → VK → Prop := fun x H Q => ∃ a dx fs, x = .ref a ∧ H a = some (.ins C dx fs) ∧ sp [x] H Q E0
theorem un_negO (F : FnOk X.prog X.w X.K X.mg X.base CX0 k f fd ps sp) (S : Spec X.K C "__neg__" f) (hr : Room k X.A) (hb : Binds X.K fd ps []) : UnR X (unaryOp .USub) (rUnO C sp) := by
  intro pins s σ H x v Q I rx h
  obtain ⟨a, dx, fs, rfl, ha, q⟩ := h
  obtain rfl : v = Value.ref a := rx
  obtain ⟨mA, J, _⟩ := ins_get I.hok ha
  obtain ⟨od, J, _⟩ := J.look
  obtain ⟨m, hF⟩ := I.fr
  refine PySem.W.ksp_neg hF I.ok.mod.kin J S.at_ S.fn ?_
  exact run_at (vs := [.ref a]) (us := [.ref a]) F hr rfl hb I (.cons rfl .nil) q
/-- abs(x) -/
def rAbsO (C : Addr) (sp : Sp) : List V → Hp → VK → Prop := fun xs H Q => ∃ x, xs = [x] ∧ rUnO C sp x H Q
theorem call_absO (F : FnOk X.prog X.w X.K X.mg X.base CX0 k f fd ps sp) (S : Spec X.K C "__abs__" f) (hr : Room (k + 1) X.A) (hb : Binds X.K fd ps []) : CallR X (.builtin "abs") (rAbsO C sp) := by
  intro pins s σ H xs us Q I r h
  obtain ⟨x, rfl, a, dx, fs, rfl, ha, q⟩ := h
  obtain ⟨u, rfl, rx⟩ := vals1 r
  obtain rfl : u = Value.ref a := rx
  obtain ⟨mA, J, _⟩ := ins_get I.hok ha
  obtain ⟨od, J, _⟩ := J.look
  have hr1 : Room k X.A.in1 := hr.in1
  refine Calls.call_function_entry kind_abs plain_abs entry_abs (args_abs _) ?_
  unfold Builtin.«abs»
  refine wpAny_bind (m := oneArg "abs" _) (wpAny_pure ?_)
  refine wpAny_bind (m := callSpecial? (.ref a) (Str.ofString "__abs__") []) (PySem.W.special_fn I.kIn J S.at_ (beq_iff_eq.mp S.fn) ?_)
  refine wpAny_mono (run_at (vs := [.ref a]) (us := [.ref a]) F hr1 rfl hb I (.cons rfl .nil) q) (fun r s' z => ?_) fun _ _ z => z
  exact wpAny_pure ⟨_, rfl, z⟩
/-- an int's own operator does not know an instance -/
theorem int_declines {nm : String} {fI : Int → Int → Sem Fin} {M : Model} {A : Around} {E : Value → Shared → Prop} {s : Shared} {i : Int} {t : Tok} {x : Addr} {ox : Obj} {Q : Fin → Shared → Prop} (hx : s.heap.get? x = some ox) (hd : ox.data = .plain)
    (h : Q (.done (.ret .notImplemented)) s) : wpAny M A (Builtin.Int.intBinary nm fI false ⟨[.int i t, .ref x], []⟩) Q E s := by
  unfold Builtin.Int.intBinary
  refine wpAny_bind (m := slotArgs nm 1 _) (wpAny_pure ?_)
  refine wpAny_bind (m := Builtin.Int.intOfSelf (.int i t)) (wpAny_pure ?_)
  refine wpAny_bind (m := asInt? (.ref x)) (wpAny_bind (wpAny_load hx ?_))
  rw [hd]
  exact wpAny_pure (wpAny_bind (wpAny_rule (wpAny_pure h)))
/-- what is known of the int's side -/
structure IntOp (nm : String) (id : String) (B : Builtin) : Prop where
  fl : fillsNumberSlot (.type "int") nm = pure true
  sl : Slot "int" (PySem.dunder nm) id
  en : entryFor table id = some B
  ar : ∀ a b : Value, argsOk id ⟨[a, b], []⟩
  bi : ∃ (n : String) (fI : Int → Int → Sem Fin), B = Builtin.Int.intBinary n fI false
theorem intOp_add : IntOp "add" "int.__add__" Builtin.«int.__add__» := ⟨PySem.F.fills_int_add, PySem.F.slot_int_add, PySem.F.entry_int_add, PySem.F.args_int_add_2, _, _, rfl⟩
theorem intOp_sub : IntOp "sub" "int.__sub__" Builtin.«int.__sub__» := ⟨PySem.F.fills_int_sub, PySem.F.slot_int_sub, PySem.F.entry_int_sub, PySem.F.args_int_sub_2, _, _, rfl⟩
theorem intOp_mul : IntOp "mul" "int.__mul__" Builtin.«int.__mul__» := ⟨PySem.F.fills_int_mul, PySem.F.slot_int_mul, PySem.F.entry_int_mul, PySem.F.args_int_mul_2, _, _, rfl⟩
/-- y op x, y an int, x an instance with the reflected def -/
def rBinR (C : Addr) (sp : Sp) : R2 := fun y x H Q => ∃ a dx fs i, x = .ref a ∧ y = .int i ∧ H a = some (.ins C dx fs) ∧ sp [x, y] H Q E0
theorem op_binR {id : String} {B : Builtin} (W : IntOp op.info.2 id B) (F : FnOk X.prog X.w X.K X.mg X.base CX0 k g fd ps sp) (S : OpC X.K C op.info.2 f g) (hr : Room k X.A) (hb : Binds X.K fd ps []) : OpR X (binaryOp op) (rBinR C sp) := by
  intro pins s σ H y x u v Q I ry rx h
  obtain ⟨a, dx, fs, i, rfl, rfl, ha, q⟩ := h
  obtain rfl : v = Value.ref a := rx
  obtain ⟨t, rfl⟩ := ry
  obtain ⟨mA, J0, _⟩ := ins_get I.hok ha
  obtain ⟨od, J, _⟩ := J0.look
  have KX := I.kIn
  obtain ⟨cd, rest, hcd, hm⟩ := PySem.W.ksp_first S.sf
  have run : wpAny (model X.prog X.w) X.A (call (.ref g) [.ref a, .int i t]) (PySem.W.CmpBack (EP X pins σ Q)) X.xe s :=
    wpAny_mono (run_at (vs := [.ref a, .int i]) (us := [.ref a, .int i t]) F hr rfl hb I (.cons rfl (.cons ⟨t, rfl⟩ .nil)) q) (fun r s' z => cmpBack_of z) fun _ _ z => z
  rcases hi : op.info with ⟨sym, nm'⟩
  have W' := W
  rw [hi] at W'
  have S' := S
  rw [hi] at S'
  dsimp only at W' S'
  obtain ⟨n, fI, hB⟩ := W'.bi
  have ti : s.TypeIs (.int i t) "int" := typeIs_int s i t
  have dec : wpAny (model X.prog X.w) X.A (call (.builtin id) [.int i t, .ref a]) (fun v s' => v = .notImplemented ∧ s' = s) X.xe s := by
    refine wpAny_call (codeAny_call_builtin W'.sl.plain W'.en (W'.sl.check _ _ _ _ _ _ _ _ ti (W'.ar _ _) ?_))
    rw [hB]
    exact int_declines J0.obj rfl ⟨rfl, rfl⟩
  have one := PySem.W.ksp_try KX J S'.hr S'.hg run
  have hne : (Value.type "int" == Value.ref C) = false := Bool.eq_false_iff.mpr fun q => by cases beq_iff_eq.mp q
  simp only [binaryOp, hi]
  refine wpAny_holding (wpAny_bind ?_)
  unfold binaryOp1
  refine wpAny_bind (wpAny_typeOf ti (wpAny_bind (J.type.here (wpAny_bind (wpAny_of_eq W'.fl ?_)))))
  simp only [hne, Bool.false_eq_true, if_false]
  refine wpAny_bind ((PySem.W.fills_K KX hcd hm S'.hs).here ?_)
  simp only [Bool.and_self, if_true]
  refine wpAny_bind ((PySem.W.looks_subIn KX S'.s2).here ?_)
  have hpy : numberSlotInPython (.type "int") nm' = pure false := rfl
  simp only [Bool.false_eq_true, if_false, pure_bind, Bool.not_false, Bool.and_self, if_true, hpy]
  refine wpAny_bind (wpAny_tryMethod_declines ti W'.sl (wpAny_mono dec (fun v s' z => ⟨z.1, ?_⟩) fun _ _ z => z))
  rw [z.2]
  refine wpAny_bind (wpAny_mono one (fun r s' z => ?_) fun _ _ z => z)
  obtain ⟨v, rfl, z⟩ := z
  exact wpAny_bind (wpAny_rule (wpAny_pure (wpAny_pure z)))
end
end Mine
namespace Mine
open PySem PySem.Spec PyProof.Rows L2
/-! ### o.m(.., k = v, ..), C.m(k = v, ..) -/
def tMethK (C : Addr) (m : Str) (n l : Nat) (sp : Sp) (gV : List V → List V → List V) (E : XK) (ta : TE) (t tk : TA) : TE := fun σ H Q => ta σ H fun x H1 => ∃ a dx fs, x = .ref a ∧ H1 a = some (.ins C dx fs) ∧ fs.lookup m = none ∧
  t σ H1 fun vs H2 => tk σ H2 fun zs H3 => vs.length = n ∧ zs.length = l ∧ sp (gV (x :: vs) zs) H3 Q E
section
variable {X : Cx} {CX : CXT} {k n : Nat} {f C : Addr} {fd : FuncData} {ps ks : List Str} {sp : Sp} {E : XK} {m : Str} {pos apos : Pos} {e o : Expr} {es : List Expr} {kws : List Keyword} {ta : TE} {t tk : TA} {g : List Value → List Value → List Value} {gV : List V → List V → List V}
theorem run_kn {pins : List (Addr × Obj)} {σ : L2.St} {H : Hp} {s : Shared} {Q : VK} {us ws : List Value} {vs zs : List V} (F : FnOk X.prog X.w X.K X.mg X.base CX k f fd ps sp) (hr : Room k X.A) (hb : KBn X.K fd ps n ks g gV) (hx : Passes CX X E)
    (I : Inv X pins σ H s) (r : Vals vs us) (rz : Vals zs ws) (l1 : vs.length = n) (l2 : zs.length = ks.length) (h : sp (gV vs zs) H Q E) : wpAny (model X.prog X.w) X.A (call (.ref f) us (ks.zip ws)) (EP X pins σ Q) X.xe s := by
  have r2 := hb.rel r rz
  refine wpAny_call (codeAny_mono (F.run X.A X.stack s H ⟨us, ks.zip ws⟩ (g us ws) (gV vs zs) Q E hr I.env0 (hb.to s us ws I.kIn (r.length.symm.trans l1) (rz.length.symm.trans l2)) r2 h) fun r s' hq => ?_)
  cases r with
  | error e => exact hx pins σ H s e s' I hq
  | ok fl =>
    cases fl with
    | ret u => exact I.after hq
    | next => exact False.elim hq
    | brk => exact False.elim hq
    | cont => exact False.elim hq
theorem pe_methK0 {pl : Sem Bool} (he : PE X o ta) (c : Cls X.K C) (hm : Meth X.K C m f) (F : FnOk X.prog X.w X.K X.mg X.base CX k f fd ps sp) (hr : Room k X.A) (hb : KBn X.K fd ps 1 ks g gV) (hx : Passes CX X E) (hkw : PK X kws tk)
    (hall : (backToKw pos (keywordEach kws X.env)).all (·.1.isSome) = true := by rfl) (hks : (backToKw pos (keywordEach kws X.env)).filterMap (·.1) = ks := by rfl)
    (hpl : ((backTo pos (starEach [] X.env)).any (·.1) || (backToKw pos (keywordEach kws X.env)).any (·.1.isNone)) = false := by rfl)
    (ht : eval (.Call (.Attribute o m apos) [] kws pos) X.env = (do
      let ov ← eval o X.env
      standAt apos.atName
      let (f, first) ← holding [ov] (getMethod ov m pl)
      callWith pos f first (backTo pos (starEach [] X.env)) (backToKw pos (keywordEach kws X.env))) := by rfl) :
    PE X (.Call (.Attribute o m apos) [] kws pos) (tMethK C m 0 ks.length sp gV E ta tNil tk) := by
  refine ⟨fun pins s σ H Q I h => ?_⟩
  refine PySem.W.methodCall_KW (pl := pl) (thn (he.run pins s σ H _ I h) fun u s1 ⟨x, H1, I1, rx, a, dx, fs, ex, ea, l, q⟩ => ?_) ht
  subst ex
  obtain rfl : u = Value.ref a := rx
  refine getmeth_ok I1 ea c hm l ?_
  refine PySem.W.callWith_KW0 (first := [.ref a]) (h₀ := X.base) I.ok.mod.kin hm.kp hall ?_ hpl
  refine thn (hkw.run pos pins s1 σ H1 _ I1 q) fun ws s2 ⟨zs, H2, I2, rz, _, l2, q2⟩ => ⟨I2.kIn, ?_⟩
  rw [hks]
  exact run_kn (us := [.ref a]) (vs := [.ref a]) F hr hb hx I2 (.cons rfl .nil) rz rfl l2 q2
end
end Mine
namespace Mine
open PySem PySem.Spec PyProof.Rows L2
/-! ### the bag of draws -/
def bagO (l : Addr) (i r m n : Int) : HO := .lst [.ref l, .int i, .int r, .int m, .int n]
structure BagV (H : Hp) (l : Addr) (i r m : Int) : Prop where
  ls : ∃ ns : List Int, H l = some (.lst (ns.map V.int))
  i0 : 0 ≤ i
  r0 : 0 ≤ r
  m0 : 0 ≤ m
  m1 : m < 2147483549
def Bag (H : Hp) (b : Addr) : Prop := ∃ l i r m n, H b = some (bagO l i r m n) ∧ BagV H l i r m ∧ l ≠ b
theorem Bag.put {H : Hp} {b l : Addr} {i r m n : Int} (ne : l ≠ b) (h : BagV H l i r m) : Bag (upd H b (bagO l i r m n)) b :=
  ⟨l, i, r, m, n, upd_same, ⟨(let ⟨ns, e⟩ := h.ls; ⟨ns, by rw [upd_ne ne]; exact e⟩), h.i0, h.r0, h.m0, h.m1⟩, ne⟩
theorem Bag.same {H H' : Hp} {b : Addr} (h : Bag H b) (e : ∀ c o, H c = some o → H' c = some o) : Bag H' b := by
  obtain ⟨l, i, r, m, n, hb, hV, ne⟩ := h
  obtain ⟨ns, hl⟩ := hV.ls
  exact ⟨l, i, r, m, n, e _ _ hb, ⟨⟨ns, e _ _ hl⟩, hV.i0, hV.r0, hV.m0, hV.m1⟩, ne⟩
def spPull : Sp := fun vs H Q _ => ∃ (b : Addr) (many : Int), vs = [.ref b, .int many] ∧ Bag H b ∧ 0 < many ∧ many < 1073741824 ∧
  ∀ (d : Int) (o : HO), 0 ≤ d → d < many → Bag (upd H b o) b → Q (.int d) (upd H b o)
structure TxtL (mg : Str → Option Value) : Prop where
  len : mg "len" = none
  abs : mg "abs" = none
  int : mg "int" = none
  list : mg "list" = none
section
variable {P : Program} {w : World} {K : PySem.W.Frag} {mg : Str → Option Value} {base : Heap}
theorem itT {c : Bool} {A B : Prop} (hc : c = true) (h : A) : if c = true then A else B := by
  rw [if_pos hc]
  exact h
theorem itF {c : Bool} {A B : Prop} (hc : c = false) (h : B) : if c = true then A else B := by
  rw [hc, if_neg Bool.false_ne_true]
  exact h
theorem rd_ix {σ : L2.St} {H : Hp} {Q : VK} {b : Addr} {xs : List V} {i : Int} {v : V} (s0 : σ[0]? = some (some (.ref b))) (h : H b = some (.lst xs)) (ha : atI xs i = some v) (q : Q v H) : tOp (rIxL K) (tVar 0) (tC (.int i)) σ H Q :=
  ⟨_, s0, b, xs, i, v, rfl, rfl, SqL.of h, ha, q⟩
theorem rd_set {σ : L2.St} {H : Hp} {D : Ends} {b : Addr} {xs : List V} {i : Int} {j : Nat} {v : V} {te : TE} (s0 : σ[0]? = some (some (.ref b))) (he : ∀ Q : VK, Q v H → te σ H Q) (h : H b = some (.lst xs)) (hj : ixN xs.length i = some j) (q : D.nx σ (upd H b (.lst (xs.set j v)))) :
    tAsg te (gSub (tVar 0) (tC (.int i)) rSetL) D σ H := he _ ⟨_, s0, b, xs, i, j, rfl, rfl, h, hj, q⟩
theorem at_range {ns : List Int} {i : Int} (h0 : 0 ≤ i) (h1 : i < ((ns.map V.int).length : Int)) : ∃ z, atI (ns.map V.int) i = some (V.int z) := by
  have h2 : i.toNat < ns.length := by rw [List.length_map] at h1; omega
  refine ⟨ns[i.toNat], ?_⟩
  unfold atI ixN
  rw [if_pos h0, if_pos h1]
  simp [h2]
end
/-! ### data -/
def okD : Nat → PyData → Bool
  | _, .none => true
  | _, .bool _ => true
  | _, .int _ => true
  | _, .str _ => true
  | n + 1, .list ds => decide (ds.length ≤ 1000) && ds.all (okD n)
  | n + 1, .tuple ds => decide (ds.length ≤ 1000) && ds.all (okD n)
  | _, _ => false
def tyD : PyData → Value
  | .none => .type "NoneType"
  | .bool _ => .type "bool"
  | .int _ => .type "int"
  | .str _ => .type "str"
  | .list _ => .type "list"
  | .tuple _ => .type "tuple"
  | .dict _ => .type "dict"
theorem Same.sqT {K : PySem.W.Frag} {H H' : Hp} {a : Addr} {xs : List V} (e : Same H H') (h : SqT K H a xs) : SqT K H' a xs := Evl.ex_t e h
mutual
theorem dp_mono {K : PySem.W.Frag} {H H' : Hp} (e : Same H H') : ∀ (d : PyData) (v : V), Dp K H v d → Dp K H' v d
  | .none, _, h => by cases h; exact .non
  | .bool b, _, h => by cases h; exact .bl b
  | .int i, _, h => by cases h; exact .int i
  | .str x, _, h => by cases h; exact .str x
  | .list ds, _, h => by
    cases h with
    | lst s a => exact .lst (Evl.ex_l e s) (dpAll_mono e ds _ a)
  | .tuple ds, _, h => by
    cases h with
    | tup s a => exact .tup (Evl.ex_t e s) (dpAll_mono e ds _ a)
  | .dict _, _, h => nomatch h
theorem dpAll_mono {K : PySem.W.Frag} {H H' : Hp} (e : Same H H') : ∀ (ds : List PyData) (vs : List V), DpAll K H vs ds → DpAll K H' vs ds
  | [], _, h => by cases h; exact .nil
  | d :: ds, _, h => by
    cases h with
    | cons a b => exact .cons (dp_mono e d _ a) (dpAll_mono e ds _ b)
end
theorem Same.new {H : Hp} {p : Addr} {o : HO} (h : H p = none) : Same H (upd H p o) := Evl.Ex.new h
theorem sz2 : 2 ≤ sizeLine := by decide
theorem dpAll_len {K : PySem.W.Frag} {H : Hp} : ∀ {ds : List PyData} {vs : List V}, DpAll K H vs ds → vs.length = ds.length
  | _, _, .nil => rfl
  | _, _, .cons _ b => congrArg (· + 1) (dpAll_len b)
theorem dpAll_at {K : PySem.W.Frag} {H : Hp} : ∀ {ds : List PyData} {vs : List V} {i : Nat} {v : V}, DpAll K H vs ds → vs[i]? = some v → ∃ d, ds[i]? = some d ∧ Dp K H v d
  | _, _, _, _, .nil, h => by simp at h
  | _, _, 0, _, .cons a _, h => by simp at h; subst h; exact ⟨_, rfl, a⟩
  | _, _, i + 1, v, .cons _ b, h => by
    obtain ⟨d, h1, h2⟩ := dpAll_at (i := i) (v := v) b (by simpa using h)
    exact ⟨d, by simpa using h1, h2⟩
theorem dp_ty {K : PySem.W.Frag} {H : Hp} {v : V} {d : PyData} (h : Dp K H v d) : TyX K H v (tyD d) := by
  cases h with
  | non => exact .base .non
  | bl b => exact .base (.bl b)
  | int i => exact .base (.int i)
  | str x => exact .base (.str x)
  | lst s a =>
    rcases s with (s | ⟨o, s⟩) | ⟨o, its, n, s, c, _⟩
    · exact .base (.lst s)
    · exact .base (.frz s)
    · exact .kList s c
  | tup s a =>
    rcases s with (s | ⟨o, s⟩) | ⟨o, its, n, s, c, _⟩
    · exact .base (.tup s)
    · exact .fTuple s
    · exact .kTuple s c
theorem walk_zipT {K : PySem.W.Frag} {a b : Addr} {xs ys : List V} {n : Nat} (hn : n = min xs.length ys.length) : Walk (RZ.ItzT K a b) n (fun H => SqT K H a xs ∧ SqT K H b ys) (YPair (fun i => xs[i]?) (fun i => ys[i]?)) := by
  subst hn
  constructor
  · intro i H hi q
    have h1 : i < xs.length := by omega
    have h2 : i < ys.length := by omega
    exact ⟨xs, ys, xs[i], ys[i], q.1, q.2, by simp [h1], by simp [h2]⟩
  · intro H q
    exact ⟨xs, ys, q.1, q.2, by omega⟩
  · intro i H v H' _ q y
    obtain ⟨T, x, z, h1, h2, h3, h4, h5⟩ := y
    exact ⟨T, x, z, h1, h2, h3, h4 xs q.1, h5 ys q.2⟩
def isBoolD : PyData → Bool
  | .bool _ => true
  | _ => false
def isIntD : PyData → Bool
  | .bool _ => true
  | .int _ => true
  | _ => false
def isStrD : PyData → Bool
  | .str _ => true
  | _ => false
def isListD : PyData → Bool
  | .list _ => true
  | _ => false
def isTupD : PyData → Bool
  | .tuple _ => true
  | _ => false
theorem kit_bool {K : PySem.W.Frag} (d : PyData) : PySem.W.kitOne K (tyD d) (.type "bool") = some (isBoolD d) := by cases d <;> first | exact kit_ty (show kitB _ _ = some true by decide +kernel) | exact kit_ty (show kitB _ _ = some false by decide +kernel)
theorem kit_int {K : PySem.W.Frag} (d : PyData) : PySem.W.kitOne K (tyD d) (.type "int") = some (isIntD d) := by cases d <;> first | exact kit_ty (show kitB _ _ = some true by decide +kernel) | exact kit_ty (show kitB _ _ = some false by decide +kernel)
theorem kit_str {K : PySem.W.Frag} (d : PyData) : PySem.W.kitOne K (tyD d) (.type "str") = some (isStrD d) := by cases d <;> first | exact kit_ty (show kitB _ _ = some true by decide +kernel) | exact kit_ty (show kitB _ _ = some false by decide +kernel)
theorem kit_list {K : PySem.W.Frag} (d : PyData) : PySem.W.kitOne K (tyD d) (.type "list") = some (isListD d) := by cases d <;> first | exact kit_ty (show kitB _ _ = some true by decide +kernel) | exact kit_ty (show kitB _ _ = some false by decide +kernel)
theorem kit_tup {K : PySem.W.Frag} (d : PyData) : PySem.W.kitOne K (tyD d) (.type "tuple") = some (isTupD d) := by cases d <;> first | exact kit_ty (show kitB _ _ = some true by decide +kernel) | exact kit_ty (show kitB _ _ = some false by decide +kernel)
theorem kit_lt {K : PySem.W.Frag} (d : PyData) : PySem.W.kitAny K (tyD d) [.type "list", .type "tuple"] = some (isListD d || isTupD d) :=
  kitAny_cons (kit_list d) (fun _ => kitAny_cons (kit_tup d) (fun h => by rw [kitAny_nil, h]; cases e : isListD d <;> simp_all) (fun h => by rw [h, Bool.or_true])) (fun h => by rw [h, Bool.true_or])
/-- equal data are told to be the same -/
def spSame (K : PySem.W.Frag) : Nat → Sp
  | 0 => fun _ _ _ _ => False
  | n + 1 => fun vs H Q _ => ∃ (x y : V) (d : PyData), vs = [x, y] ∧ Dp K H x d ∧ Dp K H y d ∧ okD n d = true ∧ ∀ H', Same H H' → Q (.bl true) H'
structure TxtS (K : PySem.W.Frag) (mg : Str → Option Value) (fS : Addr) : Prop where
  len : mg "len" = none
  isinstance : mg "isinstance" = none
  bool : mg "bool" = none
  int : mg "int" = none
  str : mg "str" = none
  list : mg "list" = none
  tuple : mg "tuple" = none
  all : mg "all" = none
  zip : mg "zip" = none
  g_same : mg "_law_same" = some (.ref fS)
  k_same : PySem.W.keepIn K (.ref fS) = true
section
variable {P : Program} {w : World} {K : PySem.W.Frag} {mg : Str → Option Value} {base : Heap}
/-- the list of a comprehension over pairs, each told True -/
theorem same_all {K : PySem.W.Frag} {m : Nat} {D : Addr} {xs ys : List V} {ds : List PyData} {J : It} {H : Hp} {G : Hp → Prop} {Qd : Hp → Prop} {σ : L2.St} (hσ : ∀ u v : V, (((wipe σ [2, 3]).set 2 (some u)).set 3 (some v))[2]? = some (some u) ∧ (((wipe σ [2, 3]).set 2 (some u)).set 3 (some v))[3]? = some (some v) ∧ wipe (((wipe σ [2, 3]).set 2 (some u)).set 3 (some v)) [2, 3] = wipe σ [2, 3])
    (w : Walk J ds.length G (YPair (fun i => xs[i]?) (fun i => ys[i]?))) (hG : ∀ H', Same H H' → G H') (hD : H D = none) (hx : DpAll K H xs ds) (hy : DpAll K H ys ds) (hl : ds.length ≤ 1000) (ok : ds.all (okD m) = true)
    (q : ∀ H', Same H H' → H' D = some (.lst ((List.replicate ds.length true).map V.bl)) → Qd H') :
    ∃ W : Nat → Nat → Hp → Prop, (∃ m, W 0 m (upd H D (.lst []))) ∧ ∀ i m' H, W i m' H →
      (J.stop i H ∧ Qd H) ∨ (J.go i H ∧ ∃ Nx : Hp → Prop, (∀ H', Nx H' → ∃ m'', m'' < m' ∧ W (i + 1) m'' H') ∧ ∀ x H', J.yld i H x H' → gTup K 2 (gCons (gName 2) (gCons (gName 3) gNil)) x (wipe σ [2, 3]) H' fun σ2 H2 => wipe σ2 [2, 3] = wipe σ [2, 3] ∧ tYes σ2 H2 fun b H3 =>
        if b = true then tCall (spSame K (m + 1)) [] E0 (tCons (tVar 2) (tCons (tVar 3) tNil)) σ2 H3 fun y H4 => ∃ acc, H4 D = some (.lst acc) ∧ acc.length < sizeLine ∧ Nx (upd H4 D (.lst (acc ++ [y]))) else Nx H3) := by
  refine lc_it w (fun i H' => Same H H' ∧ H' D = some (.lst ((List.replicate i true).map V.bl))) ⟨fun c o e => by rw [upd_ne (ne_of_none e hD)]; exact e, upd_same⟩ (fun i H' _ p => hG H' p.1) ?_ (fun H' p => q H' p.1 p.2)
  rintro i v H1 H2 hi ⟨s1, hd1⟩ ⟨T, x, y, rfl, nT, rfl, hxi, hyi⟩
  have sT : Same H1 (upd H1 T (.tup [x, y])) := fun c o e => by rw [upd_ne (ne_of_none e nT)]; exact e
  have s2 : Same H (upd H1 T (.tup [x, y])) := s1.trans sT
  obtain ⟨d1, e1, dx⟩ := dpAll_at hx hxi
  obtain ⟨d2, e2, dy⟩ := dpAll_at hy hyi
  rw [e1] at e2
  cases e2
  have okd : okD m d1 = true := (List.all_eq_true.mp ok) d1 (List.mem_of_getElem? e1)
  obtain ⟨g2, g3, gw⟩ := hσ x y
  refine ⟨T, _, rfl, .inl (.inl upd_same), rfl, ⟨x, _, rfl, ⟨y, _, rfl, ⟨rfl, gw, ?_⟩⟩⟩⟩
  refine ⟨x, g2, y, g3, x, y, d1, rfl, dp_mono s2 _ _ dx, dp_mono s2 _ _ dy, okd, fun H3 s3 => ?_⟩
  have hd3 : H3 D = some (.lst ((List.replicate i true).map V.bl)) := s3 _ _ (sT _ _ hd1)
  refine ⟨_, hd3, ?_, fun c o e => ?_, ?_⟩
  · rw [List.length_map, List.length_replicate]
    exact small1000 (by omega)
  · rw [upd_ne (ne_of_none e hD)]
    exact s3 _ _ (s2 _ _ e)
  · rw [upd_same, List.replicate_succ', List.map_append]
    rfl
end
theorem cut_ints {ns : List Int} {lo hi : Option Int} : ∃ ms : List Int, cutV (ns.map V.int) lo hi = ms.map V.int := by
  refine ⟨(ns.drop (HT.sIx (ns.map V.int).length 0 lo)).take (HT.sIx (ns.map V.int).length (ns.map V.int).length hi - HT.sIx (ns.map V.int).length 0 lo), ?_⟩
  unfold cutV
  rw [← List.map_drop, ← List.map_take]
theorem sqL_upd {K : PySem.W.Frag} {H : Hp} {b t : Addr} {o : HO} {xs : List V} (ne : t ≠ b) (h : SqL K H t xs) : SqL K (upd H b o) t xs := by
  rcases h with (h | ⟨ob, h⟩) | h
  · exact .inl (.inl (by rw [upd_ne ne]; exact h))
  · exact .inl (.inr ⟨ob, by rw [upd_ne ne]; exact h⟩)
  · exact .inr h
def spBag (K : PySem.W.Frag) : Sp := fun vs H Q _ => ∃ (a : Addr) (ns : List Int), vs = [.ref a] ∧ SqL K H a (ns.map V.int) ∧ ∀ (b : Addr) (H' : Hp), H b = none → Same H H' → Bag H' b → Q (.ref b) H'
def spOf (K : PySem.W.Frag) : Sp := fun vs H Q _ => ∃ (b t : Addr) (xs : List V), vs = [.ref b, .ref t] ∧ Bag H b ∧ SqL K H t xs ∧ t ≠ b ∧ 0 < xs.length ∧ xs.length < 1000 ∧
  ∀ (j : Nat) (v : V) (o : HO), xs[j]? = some v → Bag (upd H b o) b → Q v (upd H b o)
structure TxtP (K : PySem.W.Frag) (mg : Str → Option Value) (fP : Addr) : Prop where
  len : mg "len" = none
  g_pull : mg "_law_pull" = some (.ref fP)
  k_pull : PySem.W.keepIn K (.ref fP) = true
section
variable {P : Program} {w : World} {K : PySem.W.Frag} {mg : Str → Option Value} {base : Heap}
end
/-! ### what an error has beside its code -/
def otherName (c : Str) : Option Str := if V.str c = .str "InvalidFact" then some "what" else if V.str c = .str "InvalidRow" then some "index" else if V.str c = .str "InvalidPage" then some "line" else if V.str c = .str "UnlikeWorlds" then none else some "deed"
def fieldName (c : Str) : Option Str :=
  if inV (.str c) [.str "InvalidName", .str "InvalidNumber"] = true then some "given" else if inV (.str c) [.str "InvalidText", .str "WrongKind", .str "InvalidBlank"] = true then some "at"
  else if inV (.str c) [.str "NameTaken", .str "InvalidWitness", .str "UnknownName"] = true then some "name" else if V.str c = .str "TooLarge" then none else otherName c
/-- an error with the code c and the value v of the field fn is told by its field -/
structure ErrAt (K : PySem.W.Frag) (cls : Value) (d : Option Addr) (H : Hp) (c fn : Str) (v : V) : Prop where
  ex : ∃ (C dd : Addr) (fs : List (Str × V)), cls = .ref C ∧ XfC K C ∧ PySem.W.findIn K (.ref C) "code" = some none ∧ PySem.W.findIn K (.ref C) fn = some none ∧ d = some dd ∧ H dd = some (.xd fs) ∧ fs.lookup ("code" : Str) = some (V.str c) ∧ fs.lookup fn = some v
def spOther (K : PySem.W.Frag) : SpE := fun a cls d vs H Q => ∃ (c fn : Str) (v : V), vs = [.ref a] ∧ ErrAt K cls d H c fn v ∧ otherName c = some fn ∧ Q v H
def spField (K : PySem.W.Frag) : SpE := fun a cls d vs H Q => ∃ (c fn : Str) (v : V), vs = [.ref a] ∧ ErrAt K cls d H c fn v ∧ fieldName c = some fn ∧ ∀ H', Same H H' → Q v H'
structure TxtF (K : PySem.W.Frag) (mg : Str → Option Value) (fO : Addr) : Prop where
  g_ofield : mg "_law_other_field" = some (.ref fO)
  k_ofield : PySem.W.keepIn K (.ref fO) = true
section
variable {P : Program} {w : World} {K : PySem.W.Frag} {mg : Str → Option Value} {base : Heap}
end
/-! ### errors made -/
/-- the __init__ of an error with one field fn beside its code c -/
def spErr1 (C : Addr) (c fn : Str) : Sp := fun vs H Q _ => ∃ (a : Addr) (v : V), vs = [.ref a, v] ∧ H a = some (exo a C none) ∧
  ∀ (d : Addr) (H' : Hp), H d = none → d ≠ a → H' a = some (exo a C (some d)) → H' d = some (exd d [(fn, v), ("code", .str c)]) → (∀ b, b ≠ a → b ≠ d → H' b = H b) → Q .non H'
/-- the heap behind a raise: the error's dict beside what stood -/
theorem raised_heap {H H2 : Hp} {a d : Addr} {fs : List (Str × V)} (ha : H a = none) (hd : H d = none) (e : ∀ b, b ≠ a → b ≠ d → H2 b = upd H a (exo a 0 none) b) : upd (del H2 a) d (.xd fs) = upd H d (.xd fs) := by
  funext b
  by_cases hb : b = d
  · rw [hb, upd_same, upd_same]
  · rw [upd_ne hb, upd_ne hb]
    by_cases hba : b = a
    · rw [hba, del_same, ha]
    · rw [del_ne hba, e b hba hb, upd_ne hba]
/-- what the top says of an error class -/
structure ErrC (K : PySem.W.Frag) (mg : Str → Option Value) (nm fn : Str) (C fI : Addr) : Prop where
  x : OexC K C
  i : PySem.W.findIn K (.ref C) "__init__" = some (some (.ref fI))
  t : PySem.W.typeIn K (.ref fI) = some (.type "function")
  g : mg nm = some (.ref C)
  nc : PySem.W.findIn K (.ref C) "code" = some none
  nf : PySem.W.findIn K (.ref C) fn = some none
  xf : XfC K C
section
variable {P : Program} {w : World} {K : PySem.W.Frag} {mg : Str → Option Value} {base : Heap}
end
/-- a loop of a comprehension: B is what a turn asks -/
theorem turns_it {J : It} {n : Nat} {G : Hp → Prop} {Y : Nat → Hp → V → Hp → Prop} (w : Walk J n G Y) {Hs : Hp} {Qd : Hp → Prop} {B : (Hp → Prop) → V → Hp → Prop} (Pv : Nat → Hp → Prop) (h0 : Pv 0 Hs) (hG : ∀ i H, i ≤ n → Pv i H → G H)
    (hs : ∀ i x H H', i < n → Pv i H → Y i H x H' → B (Pv (i + 1)) x H') (hd : ∀ H, Pv n H → Qd H) :
    ∃ W : Nat → Nat → Hp → Prop, (∃ m, W 0 m Hs) ∧ ∀ i m H, W i m H → (J.stop i H ∧ Qd H) ∨ (J.go i H ∧ ∃ Nx : Hp → Prop, (∀ H', Nx H' → ∃ m', m' < m ∧ W (i + 1) m' H') ∧ ∀ x H', J.yld i H x H' → B Nx x H') := by
  refine ⟨fun i m H => m = n - i ∧ i ≤ n ∧ Pv i H, ⟨n, rfl, Nat.zero_le _, h0⟩, ?_⟩
  rintro i m H ⟨rfl, hi, p⟩
  by_cases c : i < n
  · exact .inr ⟨w.goes i H c (hG i H hi p), Pv (i + 1), fun H' p' => ⟨n - (i + 1), by omega, rfl, c, p'⟩, fun x H' y => hs i x H H' c p (w.yields i H x H' c (hG i H hi p) y)⟩
  · obtain rfl : i = n := by omega
    exact .inl ⟨w.stops H (hG i H hi p), hd H p⟩
theorem Same.make {H : Hp} {x dx : Addr} {o u : HO} (hx : H x = none) (hd : H dx = none) : Same H (upd (upd H dx o) x u) := fun b q e => by rw [upd_ne (ne_of_none e hx), upd_ne (ne_of_none e hd)]; exact e
/-- what _law_why makes of the reading tl of the lambda: the pair of "value" and what it gives, or the pair of an error's code and its field -/
def TTwhy (K : PySem.W.Frag) (CS CM : Addr) : (XK → Hp → VK → Prop) → Hp → VK → Prop := fun tl H Q =>
  tl (fun cls d H' => ∃ (c fn : Str) (v : V), PySem.W.exmAny K cls [.ref CS, .ref CM] = some true ∧ ErrAt K cls d H' c fn v ∧ fieldName c = some fn ∧ ∀ (p : Addr) (H2 : Hp), H' p = none → Same H' H2 → H2 p = some (.tup [.str c, v]) → Q (.ref p) H2) H
    (fun v H' => ([V.str "value", v] : List V).length ≤ sizeLine ∧ ∀ p, H' p = none → Q (.ref p) (upd H' p (.tup [.str "value", v])))
structure TxtW (K : PySem.W.Frag) (mg : Str → Option Value) (CS CM fF : Addr) : Prop where
  g_SlopeError : mg "SlopeError" = some (.ref CS)
  g_Missing : mg "Missing" = some (.ref CM)
  g_field : mg "_law_field" = some (.ref fF)
  k_field : PySem.W.keepIn K (.ref fF) = true
theorem int_dec (k j : Nat) : decide (V.int (k : Int) = V.int (j : Int)) = decide (k = j) := by
  by_cases h : k = j
  · rw [decide_eq_true h, h]
    exact decide_eq_true rfl
  · rw [decide_eq_false h]
    exact decide_eq_false fun z => h (by have := V.int.inj z; omega)
theorem nf_self {K : PySem.W.Frag} {C : Addr} : PySem.W.notFirst K C (.ref C) = true := by
  unfold PySem.W.notFirst
  simp
theorem Bag.lst {H : Hp} {b : Addr} (h : Bag H b) : ∃ ys, H b = some (.lst ys) := let ⟨_, _, _, _, _, h, _⟩ := h; ⟨_, h⟩
theorem dpAll_of {K : PySem.W.Frag} {H : Hp} {f : Nat → PyData} : ∀ (xs : List Addr) (n0 : Nat), (∀ (i : Nat) (t : Addr), xs[i]? = some t → Dp K H (.ref t) (f (n0 + i))) → DpAll K H (xs.map V.ref) ((List.range' n0 xs.length).map f)
  | [], _, _ => .nil
  | x :: xs, n0, h => .cons (h 0 x rfl) (dpAll_of xs (n0 + 1) fun i t z => by
      have := h (i + 1) t z
      rw [show n0 + 1 + i = n0 + (i + 1) by omega]
      exact this)
theorem sqL_ext {K : PySem.W.Frag} {H H' : Hp} (e : LamX.ExtN H H') {a : Addr} {xs : List V} (h : SqL K H a xs) : SqL K H' a xs := by
  rcases h with (h | ⟨ob, h⟩) | h
  · exact .inl (.inl (e _ _ h fun _ z => nomatch z))
  · exact .inl (.inr ⟨ob, e _ _ h fun _ z => nomatch z⟩)
  · exact .inr h
theorem sqT_ext {K : PySem.W.Frag} {H H' : Hp} (e : LamX.ExtN H H') {a : Addr} {xs : List V} (h : SqT K H a xs) : SqT K H' a xs := by
  rcases h with (h | ⟨ob, h⟩) | h
  · exact .inl (.inl (e _ _ h fun _ z => nomatch z))
  · exact .inl (.inr ⟨ob, e _ _ h fun _ z => nomatch z⟩)
  · exact .inr h
theorem ok_pair {d : PyData} (h : okD 2 d = true) (c : Str) : okD 3 (.tuple [.str c, d]) = true := by
  unfold okD
  rw [List.all_cons, List.all_cons, List.all_nil, h]
  rfl
mutual
theorem dp_ext {K : PySem.W.Frag} {H H' : Hp} (e : LamX.ExtN H H') : ∀ (d : PyData) (v : V), Dp K H v d → Dp K H' v d
  | .none, _, h => by cases h; exact .non
  | .bool b, _, h => by cases h; exact .bl b
  | .int i, _, h => by cases h; exact .int i
  | .str x, _, h => by cases h; exact .str x
  | .list ds, _, h => by
    cases h with
    | lst s a => exact .lst (sqL_ext e s) (dpAll_ext e ds _ a)
  | .tuple ds, _, h => by
    cases h with
    | tup s a => exact .tup (sqT_ext e s) (dpAll_ext e ds _ a)
  | .dict _, _, h => nomatch h
theorem dpAll_ext {K : PySem.W.Frag} {H H' : Hp} (e : LamX.ExtN H H') : ∀ (ds : List PyData) (vs : List V), DpAll K H vs ds → DpAll K H' vs ds
  | [], _, h => by cases h; exact .nil
  | d :: ds, _, h => by
    cases h with
    | cons a b => exact .cons (dp_ext e d _ a) (dpAll_ext e ds _ b)
end
theorem hu65 {A : Around} {k : Nat} (hr : Room k A) : A.units + 65 < cLine := by have := hr.un; omega
theorem hu64 {A : Around} {k : Nat} (hr : Room k A) : A.units + 64 < cLine := by have := hr.un; omega
theorem szle {n : Nat} (h : n ≤ 100000) : n ≤ sizeLine := Evl.sz_of h
theorem kit_self {K : PySem.W.Frag} {C : Addr} : PySem.W.kitOne K (.ref C) (.ref C) = some true := by
  unfold PySem.W.kitOne
  rw [if_pos (by simp)]
end Mine
namespace Mine
open PySem PySem.Spec PyProof.Rows L2
/-! ### fractions in lowest terms, plainly -/
def sgcd (n d : Int) : Int := if d < 0 then -((Nat.gcd n.natAbs d.natAbs : Nat) : Int) else ((Nat.gcd n.natAbs d.natAbs : Nat) : Int)
def low (n d : Int) : Int × Int := (n.fdiv (sgcd n d), d.fdiv (sgcd n d))
theorem sgcd_ne {n d : Int} (h : d ≠ 0) : sgcd n d ≠ 0 := by
  have : 0 < Nat.gcd n.natAbs d.natAbs := Nat.gcd_pos_of_pos_right _ (by omega)
  unfold sgcd
  split <;> omega
theorem sgcd_abs (n d : Int) : (sgcd n d).natAbs = Nat.gcd n.natAbs d.natAbs := by
  unfold sgcd
  split <;> omega
theorem sgcd_dvdl (n d : Int) : sgcd n d ∣ n := by
  rw [← Int.natAbs_dvd_natAbs, sgcd_abs]
  exact Nat.gcd_dvd_left _ _
theorem sgcd_dvdr (n d : Int) : sgcd n d ∣ d := by
  rw [← Int.natAbs_dvd_natAbs, sgcd_abs]
  exact Nat.gcd_dvd_right _ _
/-- in lowest terms -/
def Lo (n d : Int) : Prop := 0 < d ∧ Nat.gcd n.natAbs d.natAbs = 1
theorem low_mul {n d : Int} (h : d ≠ 0) : (low n d).1 * sgcd n d = n ∧ (low n d).2 * sgcd n d = d := by
  have e1 := sgcd_dvdl n d
  have e2 := sgcd_dvdr n d
  unfold low
  exact ⟨by rw [Int.fdiv_eq_ediv_of_dvd e1]; exact Int.ediv_mul_cancel e1, by rw [Int.fdiv_eq_ediv_of_dvd e2]; exact Int.ediv_mul_cancel e2⟩
theorem low_lo {n d : Int} (h : d ≠ 0) : Lo (low n d).1 (low n d).2 := by
  obtain ⟨h1, h2⟩ := low_mul (n := n) h
  have hs := sgcd_ne (n := n) h
  have ha := sgcd_abs n d
  refine ⟨?_, ?_⟩
  · rcases Int.lt_trichotomy (low n d).2 0 with c | c | c
    · exfalso
      unfold sgcd at h2 hs
      split at h2
      · rename_i hd
        have g0 : (0 : Int) < ((Nat.gcd n.natAbs d.natAbs : Nat) : Int) := by
          have : 0 < Nat.gcd n.natAbs d.natAbs := Nat.gcd_pos_of_pos_right _ (by omega)
          omega
        have : 0 < (low n d).2 * -((Nat.gcd n.natAbs d.natAbs : Nat) : Int) := Int.mul_pos_of_neg_of_neg c (by omega)
        omega
      · rename_i hd
        have g0 : (0 : Int) < ((Nat.gcd n.natAbs d.natAbs : Nat) : Int) := by
          have : 0 < Nat.gcd n.natAbs d.natAbs := Nat.gcd_pos_of_pos_right _ (by omega)
          omega
        have : (low n d).2 * ((Nat.gcd n.natAbs d.natAbs : Nat) : Int) < 0 := Int.mul_neg_of_neg_of_pos c g0
        omega
    · exfalso
      rw [c, Int.zero_mul] at h2
      exact h h2.symm
    · exact c
  · have g0 : 0 < Nat.gcd n.natAbs d.natAbs := Nat.gcd_pos_of_pos_right _ (by omega)
    have e1 : (low n d).1.natAbs * Nat.gcd n.natAbs d.natAbs = n.natAbs := by rw [← ha, ← Int.natAbs_mul, h1]
    have e2 : (low n d).2.natAbs * Nat.gcd n.natAbs d.natAbs = d.natAbs := by rw [← ha, ← Int.natAbs_mul, h2]
    have e3 : Nat.gcd ((low n d).1.natAbs * Nat.gcd n.natAbs d.natAbs) ((low n d).2.natAbs * Nat.gcd n.natAbs d.natAbs) = Nat.gcd n.natAbs d.natAbs := by rw [e1, e2]
    rw [Nat.gcd_mul_right] at e3
    exact Nat.eq_of_mul_eq_mul_right g0 (by rw [e3, Nat.one_mul])
theorem low_of {n d : Int} (h : Lo n d) : low n d = (n, d) := by
  have e : sgcd n d = 1 := by
    unfold sgcd
    rw [h.2, if_neg (by have := h.1; omega)]
    rfl
  unfold low
  rw [e, Int.fdiv_one, Int.fdiv_one]
theorem low_le {n d : Int} (h : d ≠ 0) : (low n d).1.natAbs ≤ n.natAbs ∧ (low n d).2.natAbs ≤ d.natAbs := by
  obtain ⟨h1, h2⟩ := low_mul (n := n) h
  have hs : 0 < (sgcd n d).natAbs := by have := sgcd_ne (n := n) h; omega
  have e1 : (low n d).1.natAbs * (sgcd n d).natAbs = n.natAbs := by rw [← Int.natAbs_mul, h1]
  have e2 : (low n d).2.natAbs * (sgcd n d).natAbs = d.natAbs := by rw [← Int.natAbs_mul, h2]
  exact ⟨by rw [← e1]; exact Nat.le_mul_of_pos_right _ hs, by rw [← e2]; exact Nat.le_mul_of_pos_right _ hs⟩
theorem lo_one (i : Int) : Lo i 1 := ⟨by decide, by simp⟩
theorem lo_neg {n d : Int} (h : Lo n d) : Lo (-n) d := ⟨h.1, by rw [Int.natAbs_neg]; exact h.2⟩
theorem lo_abs {n d : Int} (h : Lo n d) : Lo (if n < 0 then -n else n) d := by
  split
  · exact lo_neg h
  · exact h
/-! ### fractions in the heap -/
def ratF (n d : Int) : List (Str × V) := [("top", .int n), ("bottom", .int d)]
theorem ratF_top (n d : Int) : (ratF n d).lookup ("top" : Str) = some (.int n) := by
  unfold ratF
  rw [lookup_put, if_pos rfl]
theorem ratF_bottom (n d : Int) : (ratF n d).lookup ("bottom" : Str) = some (.int d) := by
  unfold ratF
  rw [lookup_put, if_neg (by decide +kernel), lookup_put, if_pos rfl]
theorem ratF_no (n d : Int) {m : Str} (h1 : ¬ m = "top") (h2 : ¬ m = "bottom") : (ratF n d).lookup m = none := by
  unfold ratF
  rw [lookup_put, if_neg h1, lookup_put, if_neg h2]
  rfl
theorem put_rat (n d : Int) : putF "bottom" (.int d) (putF "top" (.int n) []) = ratF n d := by
  show (if ("top" : Str) = "bottom" then _ else _) = _
  rw [if_neg (by decide +kernel)]
  rfl
def RatAt (C : Addr) (H : Hp) (a : Addr) (n d : Int) : Prop := ∃ dx, H a = some (.ins C dx (ratF n d))
theorem RatAt.mono {C : Addr} {H H' : Hp} {a : Addr} {n d : Int} (h : RatAt C H a n d) (e : Same H H') : RatAt C H' a n d := let ⟨dx, z⟩ := h; ⟨dx, e _ _ z⟩
/-- what a value is to the fractions -/
inductive Kr where
  | i (z : Int) | r (n d : Int) | no
def Kr.isI : Kr → Bool
  | .i _ => true
  | _ => false
def Kr.isN : Kr → Bool
  | .no => false
  | _ => true
def Kr.top : Kr → Int
  | .i z => z
  | .r n _ => n
  | .no => 0
def Kr.bot : Kr → Int
  | .i _ => 1
  | .r _ d => d
  | .no => 1
def wholeD : PyData → Bool
  | .int _ => true
  | _ => false
inductive KindR (K : PySem.W.Frag) (C : Addr) (H : Hp) : V → Kr → Prop where
  | int (z : Int) : KindR K C H (.int z) (.i z)
  | rat {a : Addr} {n d : Int} (h : RatAt C H a n d) : KindR K C H (.ref a) (.r n d)
  | dat {v : V} {d : PyData} (h : Dp K H v d) (w : wholeD d = false) : KindR K C H v .no
theorem KindR.mono {K : PySem.W.Frag} {C : Addr} {H H' : Hp} {v : V} {k : Kr} (h : KindR K C H v k) (e : Same H H') : KindR K C H' v k := by
  cases h with
  | int z => exact .int z
  | rat h => exact .rat (h.mono e)
  | dat h w => exact .dat (dp_mono e _ _ h) w
/-- numbers of less than k bits -/
def Bt (k : Nat) (n : Int) : Prop := n.natAbs < 2 ^ k
theorem Bt.mono {k l : Nat} {n : Int} (h : Bt k n) (e : k ≤ l) : Bt l n := Nat.lt_of_lt_of_le h (Nat.pow_le_pow_right (by decide) e)
theorem Bt.mul {k l : Nat} {n m : Int} (h : Bt k n) (g : Bt l m) : Bt (k + l) (n * m) := wide_lt h g
theorem Bt.add {k : Nat} {n m : Int} (h : Bt k n) (g : Bt k m) : Bt (k + 1) (n + m) := by
  unfold Bt at *
  rw [Nat.pow_succ]
  omega
theorem Bt.neg {k : Nat} {n : Int} (h : Bt k n) : Bt k (-n) := by
  unfold Bt at *
  rw [Int.natAbs_neg]
  exact h
theorem Bt.abs {k : Nat} {n : Int} (h : Bt k n) : Bt k (if n < 0 then -n else n) := by
  split
  · exact h.neg
  · exact h
theorem Bt.one {k : Nat} (h : 0 < k) : Bt k 1 := by
  unfold Bt
  exact Nat.one_lt_two_pow (by omega)
theorem Bt.low {k l : Nat} {n d : Int} (h : Bt k n) (g : Bt l d) (z : d ≠ 0) : Bt k (low n d).1 ∧ Bt l (low n d).2 := ⟨Nat.lt_of_le_of_lt (low_le z).1 h, Nat.lt_of_le_of_lt (low_le z).2 g⟩
theorem Bt.cm {k l : Nat} {n m : Int} (h : Bt k n) (g : Bt l m) (h0 : 0 < k) (h1 : 0 < l) (e : k + l ≤ 1000000) : CMulW n m := wide_mul h g h0 h1 e
theorem sgcd_cd {n d : Int} {k : Nat} (h : d ≠ 0) (g : Bt k d) (h0 : 0 < k) (h1 : k ≤ 9000) (i : Int) : CDivG i (sgcd n d) := by
  refine ⟨sgcd_ne h, ?_⟩
  rw [sgcd_abs]
  have e : Nat.gcd n.natAbs d.natAbs ≤ d.natAbs := Nat.gcd_le_right _ (by omega)
  exact Nat.lt_of_lt_of_le (PySem.Flt.log2_lt_of h0 (Nat.lt_of_le_of_lt e g)) h1
/-! ### promises -/
def spWhole (K : PySem.W.Frag) (C : Addr) : Sp := fun vs H Q _ => ∃ v k, vs = [v] ∧ KindR K C H v k ∧ Q (.bl k.isI) H
def spNumber (K : PySem.W.Frag) (C : Addr) : Sp := fun vs H Q _ => ∃ v k, vs = [v] ∧ KindR K C H v k ∧ Q (.bl k.isN) H
/-- a new fraction -/
def NewRat (C : Addr) (H : Hp) (Q : VK) (n d : Int) : Prop := ∀ (p : Addr) (H' : Hp), H p = none → Same H H' → RatAt C H' p n d → Q (.ref p) H'
def invD (v : V) : HO := .xd [("given", v), ("code", .str "InvalidNumber")]
def Inval (C : Addr) (H : Hp) (E : XK) (v : V) : Prop := ∀ e, H e = none → E (.ref C) (some e) (upd H e (invD v))
def spRat (K : PySem.W.Frag) (C CE : Addr) : Sp := fun vs H Q E => ∃ (a dx : Addr) (x y : V) (kx ky : Kr), vs = [.ref a, x, y] ∧ H a = some (.ins C dx []) ∧ KindR K C H x kx ∧ KindR K C H y ky ∧
  (∀ n d, kx = .i n → ky = .i d → d ≠ 0 → Bt 8000 n ∧ Bt 8000 d ∧ Q .non (upd H a (.ins C dx (ratF (low n d).1 (low n d).2)))) ∧
  (kx.isI = false → Inval CE H E x) ∧ (kx.isI = true → (ky.isI = false ∨ ky = .i 0) → Inval CE H E y)
def spRof (K : PySem.W.Frag) (C CE : Addr) : Sp := fun vs H Q E => ∃ (v : V) (k : Kr), vs = [v] ∧ KindR K C H v k ∧
  (∀ n d, k = .r n d → Q v H) ∧ (∀ z, k = .i z → Bt 8000 z ∧ NewRat C H Q z 1) ∧ (k = .no → Inval CE H E v)
/-- an operation of a fraction and a number -/
def spBin (K : PySem.W.Frag) (C : Addr) (f : Int → Int → Int → Int → Int × Int) : Sp := fun vs H Q _ => ∃ (a : Addr) (n d : Int) (y : V) (k : Kr), vs = [.ref a, y] ∧ RatAt C H a n d ∧ KindR K C H y k ∧ k.isN = true ∧ Lo n d ∧ Lo k.top k.bot ∧ Bt 1000 n ∧ Bt 1000 d ∧ Bt 1000 k.top ∧ Bt 1000 k.bot ∧
  NewRat C H Q (low (f n d k.top k.bot).1 (f n d k.top k.bot).2).1 (low (f n d k.top k.bot).1 (f n d k.top k.bot).2).2
def fAdd (n d m e : Int) : Int × Int := (n * e + m * d, d * e)
def fSub (n d m e : Int) : Int × Int := fAdd n d (-m) e
def fRsub (n d m e : Int) : Int × Int := fAdd m e (-n) d
def fMul (n d m e : Int) : Int × Int := (n * m, d * e)
def spUn (C : Addr) (f : Int → Int) : Sp := fun vs H Q _ => ∃ (a : Addr) (n d : Int), vs = [.ref a] ∧ RatAt C H a n d ∧ Lo n d ∧ Bt 7000 n ∧ Bt 7000 d ∧ NewRat C H Q (f n) d
/-! ### what the top says of the fractions -/
structure RatC (K : PySem.W.Frag) (mg : Str → Option Value) (C CE fE fW fN fO : Addr) : Prop where
  cl : Cls K C
  nT : NoAttr K C "top"
  nB : NoAttr K C "bottom"
  tyi : ∀ (H : Hp) (a dx : Addr) (fs : List (Str × V)), H a = some (.ins C dx fs) → TyX K H (.ref a) (.ref C)
  kd : ∀ d : PyData, PySem.W.kitOne K (tyD d) (.ref C) = some false
  ki : PySem.W.kitOne K (.ref C) (.type "int") = some false
  g_Ratio : mg "Ratio" = some (.ref C)
  g_whole : mg "is_whole" = some (.ref fW)
  k_whole : PySem.W.keepIn K (.ref fW) = true
  g_number : mg "is_number" = some (.ref fN)
  k_number : PySem.W.keepIn K (.ref fN) = true
  g_rof : mg "ratio_of" = some (.ref fO)
  k_rof : PySem.W.keepIn K (.ref fO) = true
  gcd : mg "gcd" = some (.builtin "math.gcd")
  isinstance : mg "isinstance" = none
  int : mg "int" = none
  bool : mg "bool" = none
  abs : mg "abs" = none
  x_InvalidNumber : OexC K CE
  i_InvalidNumber : PySem.W.findIn K (.ref CE) "__init__" = some (some (.ref fE))
  t_InvalidNumber : PySem.W.typeIn K (.ref fE) = some (.type "function")
  g_InvalidNumber : mg "InvalidNumber" = some (.ref CE)
structure RatO (K : PySem.W.Frag) (mg : Str → Option Value) (C CE fE fW fN fO fA gA fS gS fM gM fG fB : Addr) : Prop extends RatC K mg C CE fE fW fN fO where
  o_add : OpC K C "add" fA gA
  o_sub : OpC K C "sub" fS gS
  o_mul : OpC K C "mul" fM gM
  s_neg : Spec K C "__neg__" fG
  s_abs : Spec K C "__abs__" fB
  i_add : PySem.W.findIn K (.type "int") (PySem.dunder "add") = some (some (.builtin "int.__add__"))
  ir_add : PySem.W.findIn K (.type "int") (dunderR "add") = some (some (.builtin "int.__radd__"))
  i_sub : PySem.W.findIn K (.type "int") (PySem.dunder "sub") = some (some (.builtin "int.__sub__"))
  ir_sub : PySem.W.findIn K (.type "int") (dunderR "sub") = some (some (.builtin "int.__rsub__"))
  i_mul : PySem.W.findIn K (.type "int") (PySem.dunder "mul") = some (some (.builtin "int.__mul__"))
  ir_mul : PySem.W.findIn K (.type "int") (dunderR "mul") = some (some (.builtin "int.__rmul__"))
end Mine
namespace Mine
open PySem PySem.Spec PyProof.Rows L2
def top (i : Nat) : Stmt := PySem.Challenge.pw_unseenslopes_k03_ratios_reckoned.main.body.getD i (.Pass ⟨0, 0, 0, 0⟩)
abbrev s__wall : Stmt := top 1
theorem sc__wall : FnScope ["k"] ["k"] (defScope s__wall) := ⟨rfl, rfl, rfl, by decide +kernel, rfl, by decide +kernel, by decide +kernel⟩
abbrev s_InvalidNumber_D_initD_ : Stmt := inClass (top 4) 0
theorem sc_InvalidNumber_D_initD_ : FnScope ["self", "given"] ["self", "given"] (defScope s_InvalidNumber_D_initD_) := ⟨rfl, rfl, rfl, by decide +kernel, rfl, by decide +kernel, by decide +kernel⟩
abbrev s_InvalidText_D_initD_ : Stmt := inClass (top 5) 0
theorem sc_InvalidText_D_initD_ : FnScope ["self", "at"] ["self", "at"] (defScope s_InvalidText_D_initD_) := ⟨rfl, rfl, rfl, by decide +kernel, rfl, by decide +kernel, by decide +kernel⟩
abbrev s_is_whole : Stmt := top 9
theorem sc_is_whole : FnScope ["value"] ["value"] (defScope s_is_whole) := ⟨rfl, rfl, rfl, by decide +kernel, rfl, by decide +kernel, by decide +kernel⟩
abbrev s_is_number : Stmt := top 10
theorem sc_is_number : FnScope ["value"] ["value"] (defScope s_is_number) := ⟨rfl, rfl, rfl, by decide +kernel, rfl, by decide +kernel, by decide +kernel⟩
abbrev s_ratio_of : Stmt := top 11
theorem sc_ratio_of : FnScope ["value"] ["value"] (defScope s_ratio_of) := ⟨rfl, rfl, rfl, by decide +kernel, rfl, by decide +kernel, by decide +kernel⟩
abbrev s_Ratio_D_initD_ : Stmt := inClass (top 12) 0
theorem sc_Ratio_D_initD_ : FnScope ["self", "top", "bottom", "shared"] ["self", "top", "bottom"] (defScope s_Ratio_D_initD_) := ⟨rfl, rfl, rfl, by decide +kernel, rfl, by decide +kernel, by decide +kernel⟩
abbrev s_Ratio_whole : Stmt := inClass (top 12) 1
theorem sc_Ratio_whole : FnScope ["self"] ["self"] (defScope s_Ratio_whole) := ⟨rfl, rfl, rfl, by decide +kernel, rfl, by decide +kernel, by decide +kernel⟩
abbrev s_Ratio_read : Stmt := inClass (top 12) 2
theorem sc_Ratio_read : FnScope ["text", "begin", "words", "bottom", "top", "word"] ["text"] (defScope s_Ratio_read) := ⟨rfl, rfl, rfl, by decide +kernel, rfl, by decide +kernel, by decide +kernel⟩
abbrev s_Ratio_over : Stmt := inClass (top 12) 3
theorem sc_Ratio_over : FnScope ["self", "other", "low"] ["self", "other"] (defScope s_Ratio_over) := ⟨rfl, rfl, rfl, by decide +kernel, rfl, by decide +kernel, by decide +kernel⟩
abbrev s_Ratio_D_addD_ : Stmt := inClass (top 12) 4
theorem sc_Ratio_D_addD_ : FnScope ["self", "other", "more"] ["self", "other"] (defScope s_Ratio_D_addD_) := ⟨rfl, rfl, rfl, by decide +kernel, rfl, by decide +kernel, by decide +kernel⟩
abbrev s_Ratio_D_raddD_ : Stmt := inClass (top 12) 5
theorem sc_Ratio_D_raddD_ : FnScope ["self", "other"] ["self", "other"] (defScope s_Ratio_D_raddD_) := ⟨rfl, rfl, rfl, by decide +kernel, rfl, by decide +kernel, by decide +kernel⟩
abbrev s_Ratio_D_subD_ : Stmt := inClass (top 12) 6
theorem sc_Ratio_D_subD_ : FnScope ["self", "other"] ["self", "other"] (defScope s_Ratio_D_subD_) := ⟨rfl, rfl, rfl, by decide +kernel, rfl, by decide +kernel, by decide +kernel⟩
abbrev s_Ratio_D_rsubD_ : Stmt := inClass (top 12) 7
theorem sc_Ratio_D_rsubD_ : FnScope ["self", "other"] ["self", "other"] (defScope s_Ratio_D_rsubD_) := ⟨rfl, rfl, rfl, by decide +kernel, rfl, by decide +kernel, by decide +kernel⟩
abbrev s_Ratio_D_mulD_ : Stmt := inClass (top 12) 8
theorem sc_Ratio_D_mulD_ : FnScope ["self", "other", "more"] ["self", "other"] (defScope s_Ratio_D_mulD_) := ⟨rfl, rfl, rfl, by decide +kernel, rfl, by decide +kernel, by decide +kernel⟩
abbrev s_Ratio_D_rmulD_ : Stmt := inClass (top 12) 9
theorem sc_Ratio_D_rmulD_ : FnScope ["self", "other"] ["self", "other"] (defScope s_Ratio_D_rmulD_) := ⟨rfl, rfl, rfl, by decide +kernel, rfl, by decide +kernel, by decide +kernel⟩
abbrev s_Ratio_D_negD_ : Stmt := inClass (top 12) 10
theorem sc_Ratio_D_negD_ : FnScope ["self"] ["self"] (defScope s_Ratio_D_negD_) := ⟨rfl, rfl, rfl, by decide +kernel, rfl, by decide +kernel, by decide +kernel⟩
abbrev s_Ratio_D_absD_ : Stmt := inClass (top 12) 11
theorem sc_Ratio_D_absD_ : FnScope ["self"] ["self"] (defScope s_Ratio_D_absD_) := ⟨rfl, rfl, rfl, by decide +kernel, rfl, by decide +kernel, by decide +kernel⟩
abbrev s_Ratio_D_eqD_ : Stmt := inClass (top 12) 12
theorem sc_Ratio_D_eqD_ : FnScope ["self", "other", "more"] ["self", "other"] (defScope s_Ratio_D_eqD_) := ⟨rfl, rfl, rfl, by decide +kernel, rfl, by decide +kernel, by decide +kernel⟩
abbrev s_Ratio_D_strD_ : Stmt := inClass (top 12) 13
theorem sc_Ratio_D_strD_ : FnScope ["self"] ["self"] (defScope s_Ratio_D_strD_) := ⟨rfl, rfl, rfl, by decide +kernel, rfl, by decide +kernel, by decide +kernel⟩
abbrev s_Ratio_D_reprD_ : Stmt := inClass (top 12) 14
theorem sc_Ratio_D_reprD_ : FnScope ["self"] ["self"] (defScope s_Ratio_D_reprD_) := ⟨rfl, rfl, rfl, by decide +kernel, rfl, by decide +kernel, by decide +kernel⟩
abbrev s_is_digits : Stmt := top 13
theorem sc_is_digits : FnScope ["word", "sign"] ["word"] (defScope s_is_digits) := ⟨rfl, rfl, rfl, by decide +kernel, rfl, by decide +kernel, by decide +kernel⟩
abbrev s_digits_of : Stmt := top 14
theorem sc_digits_of : FnScope ["number", "step", "rest", "text"] ["number"] (defScope s_digits_of) := ⟨rfl, rfl, rfl, by decide +kernel, rfl, by decide +kernel, by decide +kernel⟩
abbrev s_L_bag : Stmt := top 16
theorem sc_L_bag : FnScope ["_law_script"] ["_law_script"] (defScope s_L_bag) := ⟨rfl, rfl, rfl, by decide +kernel, rfl, by decide +kernel, by decide +kernel⟩
abbrev s_L_pull : Stmt := top 17
theorem sc_L_pull : FnScope ["_law_bag_here", "_law_many", "_law_cell", "_law_small_here", "_law_digit", "_law_seed", "_law_step"] ["_law_bag_here", "_law_many"] (defScope s_L_pull) := ⟨rfl, rfl, rfl, by decide +kernel, rfl, by decide +kernel, by decide +kernel⟩
abbrev s_L_of : Stmt := top 18
theorem sc_L_of : FnScope ["_law_bag_here", "_law_things"] ["_law_bag_here", "_law_things"] (defScope s_L_of) := ⟨rfl, rfl, rfl, by decide +kernel, rfl, by decide +kernel, by decide +kernel⟩
abbrev s_L_small : Stmt := top 19
theorem sc_L_small : FnScope ["_law_bag_here", "_law_way"] ["_law_bag_here"] (defScope s_L_small) := ⟨rfl, rfl, rfl, by decide +kernel, rfl, by decide +kernel, by decide +kernel⟩
abbrev s_L_field : Stmt := top 20
theorem sc_L_field : FnScope ["_law_e"] ["_law_e"] (defScope s_L_field) := ⟨rfl, rfl, rfl, by decide +kernel, rfl, by decide +kernel, by decide +kernel⟩
abbrev s_L_other_field : Stmt := top 21
theorem sc_L_other_field : FnScope ["_law_e"] ["_law_e"] (defScope s_L_other_field) := ⟨rfl, rfl, rfl, by decide +kernel, rfl, by decide +kernel, by decide +kernel⟩
abbrev s_L_why : Stmt := top 22
theorem sc_L_why : FnScope ["_law_ask", "_law_e"] ["_law_ask"] (defScope s_L_why) := ⟨rfl, rfl, rfl, by decide +kernel, rfl, by decide +kernel, by decide +kernel⟩
abbrev s_L_low : Stmt := top 23
theorem sc_L_low : FnScope ["_law_top", "_law_bottom", "_law_one", "_law_other", "_law_sign"] ["_law_top", "_law_bottom"] (defScope s_L_low) := ⟨rfl, rfl, rfl, by decide +kernel, rfl, by decide +kernel, by decide +kernel⟩
abbrev s_L_plus : Stmt := top 24
theorem sc_L_plus : FnScope ["_law_one", "_law_other"] ["_law_one", "_law_other"] (defScope s_L_plus) := ⟨rfl, rfl, rfl, by decide +kernel, rfl, by decide +kernel, by decide +kernel⟩
abbrev s_L_cross : Stmt := top 25
theorem sc_L_cross : FnScope ["_law_one", "_law_other"] ["_law_one", "_law_other"] (defScope s_L_cross) := ⟨rfl, rfl, rfl, by decide +kernel, rfl, by decide +kernel, by decide +kernel⟩
abbrev s_L_pair : Stmt := top 26
theorem sc_L_pair : FnScope ["_law_found", "_law_whole", "_law_part"] ["_law_found"] (defScope s_L_pair) := ⟨rfl, rfl, rfl, by decide +kernel, rfl, by decide +kernel, by decide +kernel⟩
abbrev s_L_ratio : Stmt := top 27
theorem sc_L_ratio : FnScope ["_law_pair_here"] ["_law_pair_here"] (defScope s_L_ratio) := ⟨rfl, rfl, rfl, by decide +kernel, rfl, by decide +kernel, by decide +kernel⟩
abbrev s_law : Stmt := top 28
theorem sc_law : FnScope ["_law_script", "_law_bag_here", "_law_turn", "_law_one", "_law_other", "_law_right", "_law_whole", "_law_found", "_law_minus", "_law_number", "_law_less", "_law_due", "_law_left", "_law_odd", "_law_ratio_here"] ["_law_script"] (defScope s_law) := ⟨rfl, rfl, rfl, by decide +kernel, rfl, by decide +kernel, by decide +kernel⟩

end Mine
namespace Mine
open PySem PySem.Spec PyProof.Rows L2
section
variable {P : Program} {w : World} {K : PySem.W.Frag} {mg : Str → Option Value} {base : Heap}
theorem ok_pull {f : Addr} {fd : FuncData} (F : Fun K "_law_pull" "_law_pull" s_L_pull f fd) (T : TxtL mg) : FnOk P w K mg base CX0 1 f fd ["_law_bag_here", "_law_many"] spPull := by
  refine F.ok sc_L_pull (fun vs H Q E h => ?_) (fun cdv A outer s H vs Q E hr h => ?_)
  · obtain ⟨b, many, rfl, _⟩ := h
    rfl
  · obtain ⟨b, many, rfl, ⟨l, i, r, m, n, hb, hV, ne⟩, hm0, hm1, k⟩ := h
    refine ⟨_, (pss_cons (ps_asg (pe_op op_add (pe_ix ix_list (pv 0) pe_int (fun _ _ => rfl)) pe_int) (pg_sub (pv 0) pe_int set_list))
 (Evl.pss_cut (ps_if (PW.pt (pw_and (pt_cmpR op_eq (pe_ix ix_list (pv 0) pe_int (fun _ _ => rfl)) pe_int (nomark _)) (pw_and1 (pt_cmpR op_lt (pe_ix ix_list (pv 0) pe_int (fun _ _ => rfl)) (pe_callB call_len_seq (by rfl) T.len PySem.boot_len (pa_cons (pe_ix ix_list (pv 0) pe_int (fun _ _ => rfl)) pa_nil)) (nomark _)))))
 (pss_cons (ps_set (i := 2) sc_L_pull.nd rfl (Or.inl rfl) (pe_ix ix_list (pe_ix ix_list (pv 0) pe_int (fun _ _ => rfl)) (pe_ix ix_list (pv 0) pe_int (fun _ _ => rfl)) (fun _ _ => rfl)))
 (pss_cons (ps_asg (pe_op op_add (pe_ix ix_list (pv 0) pe_int (fun _ _ => rfl)) pe_int) (pg_sub (pv 0) pe_int set_list))
 (pss_one (ps_if (pt_cmpR op_ge (pe_callB call_abs (by rfl) T.abs (by decide +kernel) (pa_cons (pv 2) pa_nil)) (pe_op op_pow pe_int pe_int) (nomark _))
 (pss_one (ps_asg (pe_callB call_abs (by rfl) T.abs (by decide +kernel) (pa_cons (pv 2) pa_nil)) (pg_sub (pv 0) pe_int set_list)))
 (pss_cons (ps_set (i := 3) sc_L_pull.nd rfl (Or.inl rfl) (pe_op op_add (pe_op op_mul (pe_op op_mod (pe_callTy call_int1 (by rfl) T.int (by decide +kernel) (pa_cons (pv 2) pa_nil)) pe_int) pe_int) pe_int))
 (pss_one (ps_asg (pe_op op_mod (pe_callTy call_int1 (by rfl) T.int (by decide +kernel) (pa_cons (pe_op op_add (pe_op op_mul (pe_ix ix_list (pv 0) pe_int (fun _ _ => rfl)) pe_int) (pv 3)) pa_nil)) pe_int) (pg_sub (pv 0) pe_int set_list))))))))
 pss_nil)
 (pss_cons (ps_if (pt_cmpR op_gt (pe_ix ix_list (pv 0) pe_int (fun _ _ => rfl)) pe_int (nomark _))
 (pss_cons (ps_set (i := 4) sc_L_pull.nd rfl (Or.inl rfl) (pe_op op_mod (pe_callTy call_int1 (by rfl) T.int (by decide +kernel) (pa_cons (pe_ix ix_list (pv 0) pe_int (fun _ _ => rfl)) pa_nil)) (pv 1)))
 (pss_cons (ps_asg (pe_op op_fdiv (pe_ix ix_list (pv 0) pe_int (fun _ _ => rfl)) (pv 1)) (pg_sub (pv 0) pe_int set_list))
 (pss_one (ps_ret (pv 4)))))
 pss_nil)
 (pss_cons (ps_set (i := 5) sc_L_pull.nd rfl (Or.inl rfl) (pe_ix ix_list (pv 0) pe_int (fun _ _ => rfl)))
 (pss_cons (ps_set (i := 6) sc_L_pull.nd rfl (Or.inl rfl) (pe_op op_add (pe_op op_add (pe_op op_mul (pv 5) pe_int) (pe_op op_mul (pe_ix ix_list (pv 0) pe_int (fun _ _ => rfl)) pe_int)) pe_int))
 (pss_cons (ps_asg (pe_op op_mod (pe_callTy call_int1 (by rfl) T.int (by decide +kernel) (pa_cons (pe_op op_add (pe_op op_mul (pe_op op_mul (pv 5) (pv 5)) pe_int) (pv 6)) pa_nil)) pe_int) (pg_sub (pv 0) pe_int set_list))
 (pss_one (ps_ret (pe_op op_mod (pe_callTy call_int1 (by rfl) T.int (by decide +kernel) (pa_cons (pe_op op_add (pe_op op_fdiv (pe_ix ix_list (pv 0) pe_int (fun _ _ => rfl)) pe_int) (pe_op op_mul (pe_op op_mod (pe_callTy call_int1 (by rfl) T.int (by decide +kernel) (pa_cons (pe_ix ix_list (pv 0) pe_int (fun _ _ => rfl)) pa_nil)) pe_int) pe_int)) pa_nil)) (pv 1)))))))))), ?_⟩
    obtain ⟨ns, hl⟩ := hV.ls
    refine ⟨_, rfl, b, _, _, _, rfl, rfl, SqL.of hb, rfl, _, _, rfl, rfl, _, rfl, b, _, _, _, rfl, rfl, hb, rfl, ?_⟩
    refine ⟨fun σ' H' => ∃ (c z : Option V) (i r m n : Int), σ' = [some (.ref b), some (.int many), c, z, none, none, none] ∧ BagV H l i r m ∧ H' = upd H b (bagO l i r m n), ?_, ?_⟩
    · -- if bag[2] == 0 and bag[1] < len(bag[0])
      have hl' : ∀ o, (upd H b o) l = some (.lst (ns.map V.int)) := fun o => by rw [upd_ne ne]; exact hl
      refine ⟨_, rfl, b, _, _, _, rfl, rfl, SqL.of upd_same, rfl, rfl, _, rfl, ?_⟩
      by_cases c0 : r = 0
      · subst c0
        refine itT rfl ?_
        refine ⟨_, rfl, b, _, _, _, rfl, rfl, SqL.of upd_same, rfl, ?_⟩
        refine ⟨_, rfl, b, _, _, _, rfl, rfl, SqL.of upd_same, rfl, l, _, rfl, .inl (SqL.of (hl' _)), _, _, rfl, rfl, _, rfl, ?_⟩
        by_cases c1 : i < ((ns.map V.int).length : Int)
        · refine itT (decide_eq_true c1) ?_
          obtain ⟨z, hz⟩ := at_range hV.i0 c1
          refine ⟨_, rfl, b, _, _, _, rfl, rfl, SqL.of upd_same, rfl, _, rfl, b, _, _, _, rfl, rfl, SqL.of upd_same, rfl, l, _, i, _, rfl, rfl, SqL.of (hl' _), hz, ?_⟩
          refine ⟨_, rfl, b, _, _, _, rfl, rfl, SqL.of upd_same, rfl, _, _, rfl, rfl, _, rfl, b, _, _, _, rfl, rfl, upd_same, rfl, ?_⟩
          refine ⟨_, rfl, z, rfl, _, _, rfl, rfl, ⟨by decide, by decide, by decide⟩, _, _, rfl, rfl, _, rfl, ?_⟩
          by_cases c2 : (10 : Int) ^ (18 : Int).toNat ≤ (if z < 0 then -z else z)
          · refine itT (decide_eq_true c2) ?_
            refine ⟨_, rfl, z, rfl, _, rfl, b, _, _, _, rfl, rfl, upd_same, rfl, ?_⟩
            refine ⟨_, _, i + 1, (if z < 0 then -z else z), m, n + 1, rfl, ⟨⟨ns, hl⟩, by have := hV.i0; omega, by split <;> omega, hV.m0, hV.m1⟩, ?_⟩
            rw [upd_upd, upd_upd]
            rfl
          · refine itF (decide_eq_false c2) ?_
            refine ⟨_, rfl, .inl ⟨z, rfl, _, _, rfl, rfl, (by show (0 : Int) < 1000000007; decide), _, _, rfl, rfl, .inr ⟨by decide, by decide⟩, _, _, rfl, rfl, ?_⟩⟩
            refine ⟨_, rfl, b, _, _, _, rfl, rfl, SqL.of upd_same, rfl, _, _, rfl, rfl, .inr ⟨by decide, by decide⟩, _, rfl, _, _, rfl, rfl, .inl ⟨_, rfl, _, _, rfl, rfl, (by show (0 : Int) < 2147483549; decide), _, rfl, b, _, _, _, rfl, rfl, upd_same, rfl, ?_⟩⟩
            refine ⟨_, _, i + 1, 0, (m * 41759 + (z % 1000000007 * 30119 + 61)) % 2147483549, n + 1, rfl, ⟨⟨ns, hl⟩, by have := hV.i0; omega, Int.le_refl 0, Int.emod_nonneg _ (by decide), Int.emod_lt_of_pos _ (by decide)⟩, ?_⟩
            rw [upd_upd, upd_upd]
            rfl
        · refine itF (decide_eq_false c1) ?_
          exact ⟨none, none, i, 0, m, n + 1, rfl, hV, rfl⟩
      · have e2 : decide (V.int r = V.int 0) = false := decide_eq_false (fun z => c0 (V.int.inj z))
        refine itF e2 ?_
        refine itF rfl ?_
        exact ⟨none, none, i, r, m, n + 1, rfl, hV, rfl⟩
    · rintro σ' H' ⟨c, z, i, r, m, n, rfl, hV, rfl⟩
      refine ⟨_, rfl, b, _, _, _, rfl, rfl, SqL.of upd_same, rfl, _, _, rfl, rfl, _, rfl, ?_⟩
      by_cases c0 : (0 : Int) < r
      · refine itT (decide_eq_true c0) ?_
        refine ⟨_, rfl, b, _, _, _, rfl, rfl, SqL.of upd_same, rfl, .inl ⟨_, rfl, _, rfl, _, _, rfl, rfl, hm0, ?_⟩⟩
        refine ⟨_, rfl, b, _, _, _, rfl, rfl, SqL.of upd_same, rfl, _, rfl, _, _, rfl, rfl, ⟨hm0, hm1⟩, _, rfl, b, _, _, _, rfl, rfl, upd_same, rfl, ?_⟩
        refine ⟨_, rfl, ?_⟩
        have q := k (r % many) (bagO l i (r / many) m n) (Int.emod_nonneg _ (by omega)) (Int.emod_lt_of_pos _ hm0) (Bag.put (n := n) ne ⟨⟨ns, hl⟩, hV.i0, Int.ediv_nonneg hV.r0 (by omega), hV.m0, hV.m1⟩)
        rw [← upd_upd (H := H) (a := b) (o := bagO l i r m n)] at q
        exact q
      · refine itF (decide_eq_false c0) ?_
        refine ⟨_, rfl, b, _, _, _, rfl, rfl, SqL.of upd_same, rfl, ?_⟩
        have b1 : -(2 ^ 64) < m ∧ m < 2 ^ 64 := ⟨by have := hV.m0; omega, by have := hV.m1; omega⟩
        refine ⟨_, rfl, _, _, rfl, rfl, .inl b1, ?_⟩
        refine ⟨_, rfl, b, _, _, _, rfl, rfl, SqL.of upd_same, rfl, _, _, rfl, rfl, .inr ⟨by decide, by decide⟩, _, _, rfl, rfl, _, _, rfl, rfl, ?_⟩
        refine ⟨_, rfl, _, rfl, _, _, rfl, rfl, .inl b1, _, _, rfl, rfl, .inr ⟨by decide, by decide⟩, _, rfl, _, _, rfl, rfl, .inl ⟨_, rfl, _, _, rfl, rfl, (by show (0 : Int) < 2147483549; decide), _, rfl, b, _, _, _, rfl, rfl, upd_same, rfl, ?_⟩⟩
        have x0 : 0 ≤ (m * m * 19 + (m * 57191 + n * 104789 + 90031)) % 2147483549 := Int.emod_nonneg _ (by decide)
        have x1 : (m * m * 19 + (m * 57191 + n * 104789 + 90031)) % 2147483549 < 2147483549 := Int.emod_lt_of_pos _ (by decide)
        refine ⟨_, rfl, b, _, _, _, rfl, rfl, SqL.of upd_same, rfl, _, _, rfl, rfl, ⟨by decide, by decide⟩, ?_⟩
        refine ⟨_, rfl, b, _, _, _, rfl, rfl, SqL.of upd_same, rfl, .inl ⟨_, rfl, _, _, rfl, rfl, (by show (0 : Int) < 7901; decide), _, _, rfl, rfl, .inr ⟨by decide, by decide⟩, _, _, rfl, rfl, .inl ⟨_, rfl, _, rfl, _, _, rfl, rfl, hm0, ?_⟩⟩⟩
        have q := k (((m * m * 19 + (m * 57191 + n * 104789 + 90031)) % 2147483549 / 101 + (m * m * 19 + (m * 57191 + n * 104789 + 90031)) % 2147483549 % 7901 * 71) % many) (bagO l i r ((m * m * 19 + (m * 57191 + n * 104789 + 90031)) % 2147483549) n) (Int.emod_nonneg _ (by omega)) (Int.emod_lt_of_pos _ hm0) (Bag.put (n := n) ne ⟨⟨ns, hl⟩, hV.i0, hV.r0, x0, x1⟩)
        rw [← upd_upd (H := H) (a := b) (o := bagO l i r m n)] at q
        exact q
theorem ok_bag {f : Addr} {fd : FuncData} (F : Fun K "_law_bag" "_law_bag" s_L_bag f fd) (T : TxtL mg) : FnOk P w K mg base CX0 1 f fd ["_law_script"] (spBag K) := by
  refine F.ok sc_L_bag (fun vs H Q E h => ?_) (fun cdv A outer s H vs Q E hr h => ?_)
  · obtain ⟨b, many, rfl, _⟩ := h
    rfl
  · obtain ⟨a, ns, rfl, ha, k⟩ := h
    refine ⟨_, (pss_one (ps_ret (pe_lst (pa_cons (pe_callTy call_list_of (by rfl) T.list (by decide +kernel) (pa_cons (pe_slice sl_list (pv 0) po_none (po_some pe_int)) pa_nil)) (pa_cons pe_int (pa_cons pe_int (pa_cons pe_int (pa_cons pe_int pa_nil)))))))), ?_⟩
    obtain ⟨ms, hms⟩ := cut_ints (ns := ns) (lo := none) (hi := some 63)
    refine ⟨_, rfl, _, rfl, a, _, rfl, ha, fun p np => ?_⟩
    refine ⟨p, _, rfl, .inl (SqL.of upd_same), fun l nl => ?_⟩
    refine ⟨(by show 5 ≤ sizeLine; decide), fun b nb => ?_⟩
    have np' : H p = none := np
    have s1 : Same H (upd H p (.lst (cutV (ns.map V.int) none (some 63)))) := Same.new np
    have s2 := Same.new (o := .lst (cutV (ns.map V.int) none (some 63))) nl
    refine k b _ (s1.free (s2.free nb)) ((s1.trans s2).trans (Same.new nb)) ⟨l, 0, 0, 12004, 0, upd_same, ⟨⟨ms, ?_⟩, Int.le_refl 0, Int.le_refl 0, by decide, by decide⟩, fun z => ?_⟩
    · rw [upd_ne (fun z => by rw [← z, upd_same] at nb; cases nb), upd_same, hms]
    · rw [← z, upd_same] at nb
      cases nb
theorem ok_of {f fP : Addr} {fd fdP : FuncData} (F : Fun K "_law_of" "_law_of" s_L_of f fd) (T : TxtP K mg fP) (G_pull : FnOk P w K mg base CX0 1 fP fdP ["_law_bag_here", "_law_many"] spPull) (b_pull : Binds K fdP ["_law_bag_here", "_law_many"] []) :
    FnOk P w K mg base CX0 2 f fd ["_law_bag_here", "_law_things"] (spOf K) := by
  refine F.ok sc_L_of (fun vs H Q E h => ?_) (fun cdv A outer s H vs Q E r_pull h => ?_)
  · obtain ⟨b, many, _, rfl, _⟩ := h
    rfl
  · obtain ⟨b, t, xs, rfl, hb, ht, ne, l0, l1, k⟩ := h
    refine ⟨_, (pss_one (ps_ret (pe_ix ix_list (pv 1) (pe_call G_pull r_pull rfl T.g_pull T.k_pull b_pull .nil pass0 (pa_cons (pv 0) (pa_cons (pe_callB call_len_seq (by rfl) T.len PySem.boot_len (pa_cons (pv 1) pa_nil)) pa_nil))) (fun _ _ => rfl)))), ?_⟩
    refine ⟨_, rfl, _, rfl, _, rfl, t, xs, rfl, .inl ht, b, _, rfl, hb, by omega, by omega, fun d o d0 d1 hb' => ?_⟩
    have hlt : d.toNat < xs.length := by omega
    refine ⟨t, xs, d, xs[d.toNat], rfl, rfl, sqL_upd ne ht, ?_, k d.toNat _ o (by simp [hlt]) hb'⟩
    unfold atI ixN
    rw [if_pos d0, if_pos d1]
    simp [hlt]
end
end Mine
namespace Mine
open PySem PySem.Spec PyProof.Rows L2
section
variable {P : Program} {w : World} {K : PySem.W.Frag} {mg : Str → Option Value} {base : Heap}
theorem ok_other {f : Addr} {fd : FuncData} (F : Fun K "_law_other_field" "_law_other_field" s_L_other_field f fd) : FnE P w K mg base 1 f fd ["_law_e"] (spOther K) := by
  refine Fun.okE F sc_L_other_field (fun a cls d vs H Q h => ?_) (fun cdv A outer s H vs Q p cls d hr hz hf h => ?_)
  · obtain ⟨_, _, _, rfl, _⟩ := h
    rfl
  · obtain ⟨c, fn, v, rfl, ⟨C, dd, fs, ec, X, n1, n2, ed, hd, l1, l2⟩, ho, q⟩ := h
    refine ⟨_, (pss_cons (ps_if (pt_cmpR op_eq (pe_xg (p := p) (cls := cls) (d := d) (List.Mem.head _) hz hf (pv 0) rfl) pe_str (nomark _))
 (pss_one (ps_ret (pe_xg (p := p) (cls := cls) (d := d) (List.Mem.head _) hz hf (pv 0) rfl)))
 pss_nil)
 (pss_cons (ps_if (pt_cmpR op_eq (pe_xg (p := p) (cls := cls) (d := d) (List.Mem.head _) hz hf (pv 0) rfl) pe_str (nomark _))
 (pss_one (ps_ret (pe_xg (p := p) (cls := cls) (d := d) (List.Mem.head _) hz hf (pv 0) rfl)))
 pss_nil)
 (pss_cons (ps_if (pt_cmpR op_eq (pe_xg (p := p) (cls := cls) (d := d) (List.Mem.head _) hz hf (pv 0) rfl) pe_str (nomark _))
 (pss_one (ps_ret (pe_xg (p := p) (cls := cls) (d := d) (List.Mem.head _) hz hf (pv 0) rfl)))
 pss_nil)
 (pss_one (ps_ret (pe_ifExp (pt_cmpR op_eq (pe_xg (p := p) (cls := cls) (d := d) (List.Mem.head _) hz hf (pv 0) rfl) pe_str (nomark _)) pe_non (pe_xg (p := p) (cls := cls) (d := d) (List.Mem.head _) hz hf (pv 0) rfl))))))), ?_⟩
    unfold otherName at ho
    refine ⟨_, rfl, rfl, C, dd, fs, _, ec, X, n1, ed, hd, l1, rfl, _, rfl, ?_⟩
    by_cases c1 : V.str c = .str "InvalidFact"
    · rw [if_pos c1] at ho
      cases ho
      exact itT (decide_eq_true c1) ⟨_, rfl, rfl, C, dd, fs, _, ec, X, n2, ed, hd, l2, q⟩
    · rw [if_neg c1] at ho
      refine itF (decide_eq_false c1) ?_
      refine ⟨_, rfl, rfl, C, dd, fs, _, ec, X, n1, ed, hd, l1, rfl, _, rfl, ?_⟩
      by_cases c2 : V.str c = .str "InvalidRow"
      · rw [if_pos c2] at ho
        cases ho
        exact itT (decide_eq_true c2) ⟨_, rfl, rfl, C, dd, fs, _, ec, X, n2, ed, hd, l2, q⟩
      · rw [if_neg c2] at ho
        refine itF (decide_eq_false c2) ?_
        refine ⟨_, rfl, rfl, C, dd, fs, _, ec, X, n1, ed, hd, l1, rfl, _, rfl, ?_⟩
        by_cases c3 : V.str c = .str "InvalidPage"
        · rw [if_pos c3] at ho
          cases ho
          exact itT (decide_eq_true c3) ⟨_, rfl, rfl, C, dd, fs, _, ec, X, n2, ed, hd, l2, q⟩
        · rw [if_neg c3] at ho
          refine itF (decide_eq_false c3) ?_
          refine ⟨_, rfl, rfl, C, dd, fs, _, ec, X, n1, ed, hd, l1, rfl, _, rfl, ?_⟩
          by_cases c4 : V.str c = .str "UnlikeWorlds"
          · rw [if_pos c4] at ho
            cases ho
          · rw [if_neg c4] at ho
            cases ho
            exact itF (decide_eq_false c4) ⟨_, rfl, rfl, C, dd, fs, _, ec, X, n2, ed, hd, l2, q⟩
theorem ok_field {f fO : Addr} {fd fdO : FuncData} (F : Fun K "_law_field" "_law_field" s_L_field f fd) (T : TxtF K mg fO) (G_ofield : FnE P w K mg base 1 fO fdO ["_law_e"] (spOther K)) (b_ofield : Binds K fdO ["_law_e"] []) : FnE P w K mg base 2 f fd ["_law_e"] (spField K) := by
  refine Fun.okE F sc_L_field (fun a cls d vs H Q h => ?_) (fun cdv A outer s H vs Q p cls d r_ofield hz hf h => ?_)
  · obtain ⟨_, _, _, rfl, _⟩ := h
    rfl
  · obtain ⟨c, fn, v, rfl, ⟨C, dd, fs, ec, X, n1, n2, ed, hd, l1, l2⟩, ho, k⟩ := h
    refine ⟨_, (pss_cons (ps_if (pt_cmpR op_in_seq (pe_xg (p := p) (cls := cls) (d := d) (List.Mem.head _) hz hf (pv 0) rfl) (pe_tup (pa_cons pe_str (pa_cons pe_str pa_nil))) (by rfl))
 (pss_one (ps_ret (pe_xg (p := p) (cls := cls) (d := d) (List.Mem.head _) hz hf (pv 0) rfl)))
 pss_nil)
 (pss_cons (ps_if (pt_cmpR op_in_seq (pe_xg (p := p) (cls := cls) (d := d) (List.Mem.head _) hz hf (pv 0) rfl) (pe_tup (pa_cons pe_str (pa_cons pe_str (pa_cons pe_str pa_nil)))) (by rfl))
 (pss_one (ps_ret (pe_xg (p := p) (cls := cls) (d := d) (List.Mem.head _) hz hf (pv 0) rfl)))
 pss_nil)
 (pss_cons (ps_if (pt_cmpR op_in_seq (pe_xg (p := p) (cls := cls) (d := d) (List.Mem.head _) hz hf (pv 0) rfl) (pe_tup (pa_cons pe_str (pa_cons pe_str (pa_cons pe_str pa_nil)))) (by rfl))
 (pss_one (ps_ret (pe_xg (p := p) (cls := cls) (d := d) (List.Mem.head _) hz hf (pv 0) rfl)))
 pss_nil)
 (pss_cons (ps_if (pt_cmpR op_eq (pe_xg (p := p) (cls := cls) (d := d) (List.Mem.head _) hz hf (pv 0) rfl) pe_str (nomark _))
 (pss_one (ps_ret (pe_tup (pa_cons (pe_xg (p := p) (cls := cls) (d := d) (List.Mem.head _) hz hf (pv 0) rfl) (pa_cons (pe_xg (p := p) (cls := cls) (d := d) (List.Mem.head _) hz hf (pv 0) rfl) pa_nil)))))
 pss_nil)
 (pss_one (ps_ret (pe_callE (p := p) (cls := cls) (d := d) G_ofield r_ofield (List.Mem.head _) hz hf rfl T.g_ofield T.k_ofield b_ofield (pa_cons (pv 0) pa_nil)))))))), ?_⟩
    unfold fieldName at ho
    refine ⟨_, rfl, rfl, C, dd, fs, _, ec, X, n1, ed, (Same.refl H) _ _ hd, l1, sz2, fun t1 m1 => ⟨_, _, rfl, .inr (SqT.of upd_same), rfl, rfl, _, rfl, ?_⟩⟩
    have s1 : Same H (upd H t1 (.tup [.str "InvalidName", .str "InvalidNumber"])) := Same.new m1
    by_cases c1 : inV (.str c) [.str "InvalidName", .str "InvalidNumber"] = true
    · rw [if_pos c1] at ho
      cases ho
      exact itT c1 ⟨_, rfl, rfl, C, dd, fs, _, ec, X, n2, ed, s1 _ _ hd, l2, k _ s1⟩
    · rw [if_neg c1] at ho
      refine itF (Bool.not_eq_true _ ▸ c1) ?_
      refine ⟨_, rfl, rfl, C, dd, fs, _, ec, X, n1, ed, s1 _ _ hd, l1, (by show 3 ≤ sizeLine; decide), fun t2 m2 => ⟨_, _, rfl, .inr (SqT.of upd_same), rfl, rfl, _, rfl, ?_⟩⟩
      have s2 : Same H (upd (upd H t1 (.tup [.str "InvalidName", .str "InvalidNumber"])) t2 (.tup [.str "InvalidText", .str "WrongKind", .str "InvalidBlank"])) := s1.trans (Same.new m2)
      by_cases c2 : inV (.str c) [.str "InvalidText", .str "WrongKind", .str "InvalidBlank"] = true
      · rw [if_pos c2] at ho
        cases ho
        exact itT c2 ⟨_, rfl, rfl, C, dd, fs, _, ec, X, n2, ed, s2 _ _ hd, l2, k _ s2⟩
      · rw [if_neg c2] at ho
        refine itF (Bool.not_eq_true _ ▸ c2) ?_
        refine ⟨_, rfl, rfl, C, dd, fs, _, ec, X, n1, ed, s2 _ _ hd, l1, (by show 3 ≤ sizeLine; decide), fun t3 m3 => ⟨_, _, rfl, .inr (SqT.of upd_same), rfl, rfl, _, rfl, ?_⟩⟩
        have s3 : Same H (upd (upd (upd H t1 (.tup [.str "InvalidName", .str "InvalidNumber"])) t2 (.tup [.str "InvalidText", .str "WrongKind", .str "InvalidBlank"])) t3 (.tup [.str "NameTaken", .str "InvalidWitness", .str "UnknownName"])) := s2.trans (Same.new m3)
        by_cases c3 : inV (.str c) [.str "NameTaken", .str "InvalidWitness", .str "UnknownName"] = true
        · rw [if_pos c3] at ho
          cases ho
          exact itT c3 ⟨_, rfl, rfl, C, dd, fs, _, ec, X, n2, ed, s3 _ _ hd, l2, k _ s3⟩
        · rw [if_neg c3] at ho
          refine itF (Bool.not_eq_true _ ▸ c3) ?_
          refine ⟨_, rfl, rfl, C, dd, fs, _, ec, X, n1, ed, s3 _ _ hd, l1, rfl, _, rfl, ?_⟩
          by_cases c4 : V.str c = .str "TooLarge"
          · rw [if_pos c4] at ho
            cases ho
          · rw [if_neg c4] at ho
            refine itF (decide_eq_false c4) ?_
            exact ⟨_, rfl, c, fn, v, rfl, ⟨C, dd, fs, ec, X, n1, n2, ed, s3 _ _ hd, l1, l2⟩, ho, k _ s3⟩
end
end Mine
namespace Mine
open PySem PySem.Spec PyProof.Rows L2
theorem why_gives {X : Cx} {g CS CM fF : Addr} {fdF : FuncData} {cdg : Value} {q : Str} (T : TxtW X.K X.mg CS CM fF) (G_field : FnE X.prog X.w X.K X.mg X.base 2 fF fdF ["_law_e"] (spField X.K)) (b_field : Binds X.K fdF ["_law_e"] []) (hr : Room 3 X.A) :
    LamX.GivesTo X ["_law_ask", "_law_e"] "_law_why" (defScope s_L_why) g cdg (defBody s_L_why) "_law_ask" q (TTwhy X.K CS CM) := by
  intro f c' s H Q tl act hc h
  have hr2 : Room 2 (X.A.deeper (envOfC "_law_why" (defScope s_L_why) s.heap.objs.size g cdg)) := hr.deeper _
  refine ⟨_, pss_one (ps_clauses (X := (cxOf C8.CX0 X.prog X.w X.K X.mg X.base ["_law_ask", "_law_e"] "_law_why" (defScope s_L_why) g cdg X.A X.stack s H C8.E0).nox) (Wout := fun _ _ _ _ => False)
      (l := [⟨fun cls => PySem.W.exmAny X.K cls [.ref CS, .ref CM], 1, fun a cls d => tRet (tTup (tCons (tXg X.K a cls d "code" (tVar 1)) (tCons (tCallE (spField X.K) a cls d (tCons (tVar 1) tNil)) tNil)))⟩])
      (tb := fun W D σ H => ∃ Ech : XK, (∀ cls d (σ' : L2.St) H', σ'.length = 2 → Ech cls d H' → W cls d σ' H') ∧ σ[0]? = some (some (.ref f)) ∧ H c' = some (LamX.CodeO c' q) ∧ tl Ech H fun v H1 => ([V.str "value", v] : List V).length ≤ sizeLine ∧ ∀ p, H1 p = none → D.rt (.ref p) (upd H1 p (.tup [.str "value", v])))
      rfl rfl sc_L_why.nd takes0 (fun W pn xe tk _ => ?_) (.cons (test2 ⟨rfl, by decide, .inl T.g_SlopeError⟩ ⟨rfl, by decide, .inl T.g_Missing⟩) rfl rfl (fun a oe cls d pn hz hf => ?_) .nil)), ?_⟩
  · refine ⟨fun pins s' σ H' D I h' => ?_⟩
    obtain ⟨Ech, hW, h1, h2, h3⟩ := h'
    have tk2 : Takes ((cxOf C8.CX0 X.prog X.w X.K X.mg X.base ["_law_ask", "_law_e"] "_law_why" (defScope s_L_why) g cdg X.A X.stack s H C8.E0).tr pn xe) (fun cls d σ' H' => σ'.length = 2 → W cls d σ' H') := by
      rintro u s2 ⟨a, B, sI, pins, σ, H, cls, d, e, J, nb, up, sky, na, os, ag, w⟩
      exact tk u s2 ⟨a, B, sI, pins, σ, H, cls, d, e, J, nb, up, sky, na, os, ag, w J.len⟩
    exact (pss_one (ps_ret (pe_tup (pa_cons pe_str (pa_cons (act (fun cls d σ' H' => σ'.length = 2 → W cls d σ' H') pn xe Ech _ _ tk2 fun cls d σ' H' e l => hW cls d σ' H' l e) pa_nil))))).run pins s' σ H' D I ⟨h1, h2, h3⟩
  · exact pss_one (ps_ret (pe_tup (pa_cons (pe_xg (X := ((cxOf C8.CX0 X.prog X.w X.K X.mg X.base ["_law_ask", "_law_e"] "_law_why" (defScope s_L_why) g cdg X.A X.stack s H C8.E0).nox.suite a ((a, oe) :: pn))) (p := (a, oe)) (List.Mem.head _) hz hf (pv 1)) (pa_cons (pe_callE (X := ((cxOf C8.CX0 X.prog X.w X.K X.mg X.base ["_law_ask", "_law_e"] "_law_why" (defScope s_L_why) g cdg X.A X.stack s H C8.E0).nox.suite a ((a, oe) :: pn))) (p := (a, oe)) G_field ⟨hr2.dp, hr2.un⟩ (List.Mem.head _) hz hf (by rfl) T.g_field T.k_field b_field (pa_cons (pv 1) pa_nil)) pa_nil))))
  · refine ⟨fun cls d H' => ∃ (c fn : Str) (v : V), PySem.W.exmAny X.K cls [.ref CS, .ref CM] = some true ∧ ErrAt X.K cls d H' c fn v ∧ fieldName c = some fn ∧ ∀ (p : Addr) (H2 : Hp), H' p = none → Same H' H2 → H2 p = some (.tup [.str c, v]) → Q (.ref p) H2, fun cls d σ' H' ln z => ?_, rfl, hc, h⟩
    obtain ⟨c, fn, v, em, er, ef, k⟩ := z
    refine ⟨true, em, fun _ a na => ?_, fun z => nomatch z⟩
    obtain ⟨C, dd, fs, ec, X1, n1, n2, ed, hd, l1, l2⟩ := er.ex
    have sl : (σ'.set 1 (some (V.ref a)))[1]? = some (some (V.ref a)) := by simp [ln]
    refine ⟨_, sl, rfl, C, dd, fs, _, ec, X1, n1, ed, hd, l1, _, sl, c, fn, v, rfl, er, ef, fun H2 s2 => ⟨sz2, fun p np => ?_⟩⟩
    exact k p _ (s2.free np) (s2.trans (Same.new np)) upd_same
end Mine
namespace Mine
open PySem PySem.Spec PyProof.Rows L2
section
variable {P : Program} {w : World} {K : PySem.W.Frag} {mg : Str → Option Value} {base : Heap} {C CE fE fW fN fO : Addr}
theorem ok_InvalidNumber {f C : Addr} {fd : FuncData} (F : Fun K "__init__" "InvalidNumber.__init__" s_InvalidNumber_D_initD_ f fd) (T : ErrC K mg "InvalidNumber" "given" C f) : FnOk P w K mg base CX0 1 f fd ["self", "given"] (spErr1 C "InvalidNumber" "given") := by
  refine F.ok sc_InvalidNumber_D_initD_ (fun vs H Q E h => ?_) (fun cdv A outer s H vs Q E hr h => ?_)
  · obtain ⟨a, v, rfl, _⟩ := h
    rfl
  · obtain ⟨a, v, rfl, ha, k⟩ := h
    refine ⟨_, (pss_cons (ps_ost (pv 0) pe_str rfl)
 (pss_one (ps_ost (pv 0) (pv 1) rfl))), ?_⟩
    refine ⟨_, rfl, a, C, rfl, T.x, T.nc, .inl ⟨ha, fun d nd ne => ?_⟩⟩
    have e1 : upd (upd H d (exd d [("code", .str "InvalidNumber")])) a (exo a C (some d)) d = some (exd d [("code", .str "InvalidNumber")]) := by rw [upd_ne ne, upd_same]
    refine ⟨_, rfl, _, rfl, a, C, rfl, T.x, T.nf, .inr ⟨d, _, upd_same, e1, (by show 1 ≤ 900; decide), ?_⟩⟩
    refine k d _ nd ne ?_ upd_same fun b hba hbd => ?_
    · rw [upd_ne ne.symm, upd_same]
    · rw [upd_ne hbd, upd_ne hba, upd_ne hbd]
theorem ok_whole {fd : FuncData} (F : Fun K "is_whole" "is_whole" s_is_whole fW fd) (T : RatC K mg C CE fE fW fN fO) : FnOk P w K mg base CX0 1 fW fd ["value"] (spWhole K C) := by
  refine F.ok sc_is_whole (fun vs H Q E h => ?_) (fun cdv A outer s H vs Q E hr h => ?_)
  · obtain ⟨_, _, rfl, _⟩ := h
    rfl
  · obtain ⟨v, k, rfl, hk, q⟩ := h
    refine ⟨_, (pss_one (ps_ret (pe_and (pe_callB (id := "isinstance") call_isi (by rfl) T.isinstance (by decide +kernel) (pa_cons (pv 0) (pa_cons (pe_bltn (v := .ty "int") (by rfl) T.int (by decide +kernel) rfl) pa_nil))) (pe_one (pe_not (pe_callB (id := "isinstance") call_isi (by rfl) T.isinstance (by decide +kernel) (pa_cons (pv 0) (pa_cons (pe_bltn (v := .ty "bool") (by rfl) T.bool (by decide +kernel) rfl) pa_nil)))))))), ?_⟩
    cases hk with
    | int z =>
      refine ⟨_, rfl, _, _, _, _, _, rfl, .ty _, dp_ty (.int z), kit_int (.int z), true, rfl, ?_⟩
      exact ⟨_, rfl, _, _, _, _, _, rfl, .ty _, dp_ty (.int z), kit_bool (.int z), _, rfl, q⟩
    | rat ha =>
      obtain ⟨dx, ha⟩ := ha
      exact ⟨_, rfl, _, _, _, _, _, rfl, .ty _, T.tyi _ _ _ _ ha, T.ki, false, rfl, q⟩
    | dat hd w =>
      rename_i d
      refine ⟨_, rfl, _, _, _, _, _, rfl, .ty _, dp_ty hd, kit_int d, isIntD d, rfl, ?_⟩
      cases d with
      | bool b => exact ⟨_, rfl, _, _, _, _, _, rfl, .ty _, dp_ty hd, kit_bool (.bool b), _, rfl, q⟩
      | int i => cases w
      | none => exact q
      | str _ => exact q
      | list _ => exact q
      | tuple _ => exact q
      | dict _ => cases hd
theorem ok_number {fdW fd : FuncData} (F : Fun K "is_number" "is_number" s_is_number fN fd) (T : RatC K mg C CE fE fW fN fO) (G_whole : FnOk P w K mg base CX0 1 fW fdW ["value"] (spWhole K C)) (b_whole : Binds K fdW ["value"] []) : FnOk P w K mg base CX0 2 fN fd ["value"] (spNumber K C) := by
  refine F.ok sc_is_number (fun vs H Q E h => ?_) (fun cdv A outer s H vs Q E r_whole h => ?_)
  · obtain ⟨_, _, rfl, _⟩ := h
    rfl
  · obtain ⟨v, k, rfl, hk, q⟩ := h
    refine ⟨_, (pss_one (ps_ret (pe_or (pe_call G_whole r_whole rfl T.g_whole T.k_whole b_whole .nil pass0 (pa_cons (pv 0) pa_nil)) (pe_one (pe_callB (id := "isinstance") call_isi (by rfl) T.isinstance (by decide +kernel) (pa_cons (pv 0) (pa_cons (pe_glob (v := .ref _) rfl T.g_Ratio rfl) pa_nil))))))), ?_⟩
    refine ⟨_, rfl, v, k, rfl, hk, _, rfl, ?_⟩
    cases hk with
    | int z => exact q
    | rat ha =>
      obtain ⟨dx, ha⟩ := ha
      exact ⟨_, rfl, _, _, _, _, _, rfl, .own C, T.tyi _ _ _ _ ha, kit_self, q⟩
    | dat hd w => exact ⟨_, rfl, _, _, _, _, _, rfl, .own C, dp_ty hd, T.kd _, q⟩
theorem ok_Ratio {f : Addr} {fd fdE fdW : FuncData} {dvs : List V} {kws : List (Str × V)} (F : FunD K "__init__" "Ratio.__init__" (defArgs s_Ratio_D_initD_) (defBody s_Ratio_D_initD_) (defScope s_Ratio_D_initD_) dvs kws f fd) (T : RatC K mg C CE fE fW fN fO)
    (G_whole : FnOk P w K mg base CX0 1 fW fdW ["value"] (spWhole K C)) (b_whole : Binds K fdW ["value"] [])
    (G_InvalidNumber : FnOk P w K mg base CX0 1 fE fdE ["self", "given"] (spErr1 CE "InvalidNumber" "given")) (b_InvalidNumber : Binds K fdE ["self", "given"] []) : FnOk P w K mg base (L2.CX P w) 3 f fd ["self", "top", "bottom"] (spRat K C CE) := by
  refine F.ok sc_Ratio_D_initD_ (fun vs H Q E h => ?_) (fun cdv A outer s H vs Q E r_InvalidNumber h => ?_)
  · obtain ⟨_, _, _, _, _, _, rfl, _⟩ := h
    rfl
  · obtain ⟨a, dx, x, y, kx, ky, rfl, ha, hx, hy, kG, kX, kY⟩ := h
    have r_whole := r_InvalidNumber.mono (show 1 ≤ 2 by decide)
    refine ⟨_, (pss_cons (ps_if (pt_not (pt_val (pe_call G_whole r_whole rfl T.g_whole T.k_whole b_whole .nil pass0 (pa_cons (pv 1) pa_nil))))
 (pss_one (ps_raise rfl (takes_of rfl rfl rfl rfl) (pmk_oex T.x_InvalidNumber T.i_InvalidNumber T.t_InvalidNumber G_InvalidNumber r_InvalidNumber b_InvalidNumber .nil pass0 rfl T.g_InvalidNumber (pa_cons (pv 1) pa_nil))))
 pss_nil)
 (pss_cons (ps_if (PW.pt (pw_or (pt_not (pt_val (pe_call G_whole r_whole rfl T.g_whole T.k_whole b_whole .nil pass0 (pa_cons (pv 2) pa_nil)))) (pw_or1 (pt_cmpR op_eq (pv 2) pe_int (nomark _)))))
 (pss_one (ps_raise rfl (takes_of rfl rfl rfl rfl) (pmk_oex T.x_InvalidNumber T.i_InvalidNumber T.t_InvalidNumber G_InvalidNumber r_InvalidNumber b_InvalidNumber .nil pass0 rfl T.g_InvalidNumber (pa_cons (pv 2) pa_nil))))
 pss_nil)
 (pss_cons (ps_set (i := 3) sc_Ratio_D_initD_.nd rfl (Or.inl rfl) (pe_callBfun cr_gcd (by rfl) T.gcd (pa_cons (pv 1) (pa_cons (pv 2) pa_nil))))
 (pss_cons (ps_if (pt_cmpR op_lt (pv 2) pe_int (nomark _))
 (pss_one (ps_set (i := 3) sc_Ratio_D_initD_.nd rfl (Or.inl rfl) (pe_un un_neg (pv 3))))
 pss_nil)
 (pss_cons (ps_fld (pv 0) (pe_op op_fdivG (pv 1) (pv 3)) rfl)
 (pss_one (ps_fld (pv 0) (pe_op op_fdivG (pv 2) (pv 3)) rfl))))))), ?_⟩
    have rz : ∀ (v : V), Inval CE H E v → ∀ (p : Addr), H p = none → ∀ (d' : Addr) (H' : Hp), upd H p (exo p CE none) d' = none → d' ≠ p → (∀ b, b ≠ p → b ≠ d' → H' b = upd H p (exo p CE none) b) → del H' p d' = H' d' ∧ H d' = none ∧ E (.ref CE) (some d') (upd (del H' p) d' (invD v)) := fun v iv p np d' H' nd ne h3 => by
      rw [upd_ne ne] at nd
      have eq : upd (del H' p) d' (invD v) = upd H d' (invD v) := by
        funext b
        by_cases hb : b = d'
        · rw [hb, upd_same, upd_same]
        · rw [upd_ne hb, upd_ne hb]
          by_cases hba : b = p
          · rw [hba, del_same, np]
          · rw [del_ne hba, h3 b hba hb, upd_ne hba]
      rw [eq]
      exact ⟨del_ne ne, nd, iv d' nd⟩
    refine ⟨_, rfl, x, kx, rfl, hx, _, rfl, ?_⟩
    cases ex : kx.isI with
    | false =>
      refine ⟨_, rfl, (by show 1 ≤ 1000; decide), fun p np => ?_⟩
      refine ⟨p, x, rfl, upd_same, fun d' H' nd ne h1 h2 h3 => ⟨rfl, d', _, h1, h2, (rz x (kX ex) p np d' H' nd ne h3).2.1, (rz x (kX ex) p np d' H' nd ne h3).2.2⟩⟩
    | true =>
      refine ⟨_, rfl, y, ky, rfl, hy, _, rfl, ?_⟩
      cases ey : ky.isI with
      | false =>
        refine ⟨_, rfl, (by show 1 ≤ 1000; decide), fun p np => ?_⟩
        refine ⟨p, y, rfl, upd_same, fun d' H' nd ne h1 h2 h3 => ⟨rfl, d', _, h1, h2, (rz y (kY ex (.inl ey)) p np d' H' nd ne h3).2.1, (rz y (kY ex (.inl ey)) p np d' H' nd ne h3).2.2⟩⟩
      | true =>
        cases hx with
        | rat _ => cases ex
        | dat _ _ => cases ex
        | int n =>
        cases hy with
        | rat _ => cases ey
        | dat _ _ => cases ey
        | int d =>
        refine ⟨_, rfl, rfl, _, rfl, ?_⟩
        by_cases d0 : d = 0
        · refine itT (decide_eq_true (by rw [d0])) ?_
          refine ⟨_, rfl, (by show 1 ≤ 1000; decide), fun p np => ?_⟩
          have iv := kY rfl (.inr (by rw [d0]))
          refine ⟨p, _, rfl, upd_same, fun d' H' nd ne h1 h2 h3 => ⟨rfl, d', _, h1, h2, (rz _ iv p np d' H' nd ne h3).2.1, (rz _ iv p np d' H' nd ne h3).2.2⟩⟩
        · refine itF (decide_eq_false fun z => d0 (V.int.inj z)) ?_
          obtain ⟨bn, bd, q⟩ := kG n d rfl rfl d0
          refine ⟨_, rfl, _, rfl, _, _, rfl, ?_⟩
          refine ⟨_, rfl, _, _, rfl, rfl, _, rfl, ?_⟩
          have cd : ∀ i, CDivG i (sgcd n d) := sgcd_cd d0 bd (by decide) (by decide)
          unfold low at q
          by_cases dn : d < 0
          · refine itT (decide_eq_true dn) ?_
            have es : sgcd n d = -((Nat.gcd n.natAbs d.natAbs : Nat) : Int) := if_pos dn
            rw [es] at cd q
            refine ⟨_, rfl, _, rfl, ?_⟩
            refine ⟨_, rfl, _, rfl, _, _, rfl, rfl, cd n, _, rfl, a, C, dx, _, rfl, ha, T.cl, T.nT, (by show 0 < 1000; decide), ?_⟩
            refine ⟨_, rfl, _, rfl, _, _, rfl, rfl, cd d, _, rfl, a, C, dx, _, rfl, upd_same, T.cl, T.nB, (by show 1 < 1000; decide), ?_⟩
            rw [put_rat, upd_upd]
            exact q
          · refine itF (decide_eq_false dn) ?_
            have es : sgcd n d = ((Nat.gcd n.natAbs d.natAbs : Nat) : Int) := if_neg dn
            rw [es] at cd q
            refine ⟨_, rfl, _, rfl, _, _, rfl, rfl, cd n, _, rfl, a, C, dx, _, rfl, ha, T.cl, T.nT, (by show 0 < 1000; decide), ?_⟩
            refine ⟨_, rfl, _, rfl, _, _, rfl, rfl, cd d, _, rfl, a, C, dx, _, rfl, upd_same, T.cl, T.nB, (by show 1 < 1000; decide), ?_⟩
            rw [put_rat, upd_upd]
            exact q
theorem ok_rof {fR : Addr} {fd fdE fdW fdR : FuncData} {ds1 : List Value} (F : Fun K "ratio_of" "ratio_of" s_ratio_of fO fd) (T : RatC K mg C CE fE fW fN fO)
    (G_whole : FnOk P w K mg base CX0 1 fW fdW ["value"] (spWhole K C)) (b_whole : Binds K fdW ["value"] [])
    (G_InvalidNumber : FnOk P w K mg base CX0 1 fE fdE ["self", "given"] (spErr1 CE "InvalidNumber" "given")) (b_InvalidNumber : Binds K fdE ["self", "given"] [])
    (M_Ratio : Mk K C fR) (G_Ratio : FnOk P w K mg base (L2.CX P w) 3 fR fdR ["self", "top", "bottom"] (spRat K C CE)) (b1_Ratio : Vals [.int 1] ds1 ∧ Binds K fdR ["self", "top", "bottom"] ds1) : FnOk P w K mg base (L2.CX P w) 5 fO fd ["value"] (spRof K C CE) := by
  refine F.okX sc_ratio_of (fun vs H Q E h => ?_) (fun cdv A outer s H vs Q E r_Ratio h => ?_)
  · obtain ⟨_, _, rfl, _⟩ := h
    rfl
  · obtain ⟨v, k, rfl, hk, kR, kI, kN⟩ := h
    have r_whole := r_Ratio.mono (show 1 ≤ 4 by decide)
    have r_InvalidNumber := r_Ratio.mono (show 2 ≤ 4 by decide)
    refine ⟨_, (pss_cons (ps_if (pt_val (pe_callB (id := "isinstance") call_isi (by rfl) T.isinstance (by decide +kernel) (pa_cons (pv 0) (pa_cons (pe_glob (v := .ref _) rfl T.g_Ratio rfl) pa_nil))))
 (pss_one (ps_ret (pv 0)))
 pss_nil)
 (pss_cons (ps_if (pt_not (pt_val (pe_call G_whole r_whole rfl T.g_whole T.k_whole b_whole .nil pass0 (pa_cons (pv 0) pa_nil))))
 (pss_one (ps_raise rfl (takes_of rfl rfl rfl rfl) (pmk_oex T.x_InvalidNumber T.i_InvalidNumber T.t_InvalidNumber G_InvalidNumber r_InvalidNumber b_InvalidNumber .nil pass0 rfl T.g_InvalidNumber (pa_cons (pv 0) pa_nil))))
 pss_nil)
 (pss_one (ps_ret (pe_make M_Ratio G_Ratio r_Ratio rfl T.g_Ratio b1_Ratio.2 b1_Ratio.1 passL (pa_cons (pv 0) pa_nil)))))), ?_⟩
    cases hk with
    | rat ha =>
      rename_i a n d
      obtain ⟨dx, ha'⟩ := ha
      exact ⟨_, rfl, _, _, _, _, _, rfl, .own C, T.tyi _ _ _ _ ha', kit_self, true, rfl, _, rfl, kR n d rfl⟩
    | int z =>
      obtain ⟨bz, q⟩ := kI z rfl
      refine ⟨_, rfl, _, _, _, _, _, rfl, .own C, dp_ty (.int z), T.kd (.int z), false, rfl, ?_⟩
      refine ⟨_, rfl, _, _, rfl, .int z, _, rfl, ?_⟩
      refine ⟨_, rfl, fun p dx np nd ne => ⟨p, dx, _, _, .i z, .i 1, rfl, upd_same, .int z, .int 1, fun n d e1 e2 _ => ?_, fun z => (nomatch z), fun _ z => z.elim (fun z => nomatch z) (fun z => nomatch z)⟩⟩
      cases e1
      cases e2
      refine ⟨bz, Bt.one (by decide), rfl, ?_⟩
      rw [upd_upd, low_of (lo_one z)]
      exact q p _ np (Same.make np nd) ⟨dx, upd_same⟩
    | dat hd w =>
      refine ⟨_, rfl, _, _, _, _, _, rfl, .own C, dp_ty hd, T.kd _, false, rfl, ?_⟩
      refine ⟨_, rfl, _, _, rfl, .dat hd w, _, rfl, ?_⟩
      refine ⟨_, rfl, (by show 1 ≤ 1000; decide), fun p np => ?_⟩
      refine ⟨p, v, rfl, upd_same, fun d' H' nd ne h1 h2 h3 => ⟨rfl, d', _, h1, h2, ?_, ?_⟩⟩
      · rw [upd_ne ne] at nd
        exact nd
      · rw [upd_ne ne] at nd
        have eq : upd (del H' p) d' (invD v) = upd H d' (invD v) := by
          funext b
          by_cases hb : b = d'
          · rw [hb, upd_same, upd_same]
          · rw [upd_ne hb, upd_ne hb]
            by_cases hba : b = p
            · rw [hba, del_same, np]
            · rw [del_ne hba, h3 b hba hb, upd_ne hba]
        show E (.ref CE) (some d') (upd (del H' p) d' (invD v))
        rw [eq]
        exact kN rfl d' nd
end
end Mine
namespace Mine
open PySem PySem.Spec PyProof.Rows L2
section
variable {P : Program} {w : World} {K : PySem.W.Frag} {mg : Str → Option Value} {base : Heap} {C CE fE fW fN fO : Addr}
theorem rof_use {H : Hp} {y : V} {k : Kr} {Q : VK} {E : XK} (hk : KindR K C H y k) (hN : k.isN = true) (hb : Bt 8000 k.top) (q : ∀ p H', Same H H' → RatAt C H' p k.top k.bot → Q (.ref p) H') : spRof K C CE [y] H Q E := by
  refine ⟨y, k, rfl, hk, fun n d e => ?_, fun z e => ?_, fun e => by rw [e] at hN; cases hN⟩
  · subst e
    cases hk with
    | rat ha => exact q _ H (Same.refl H) ha
  · subst e
    exact ⟨hb, fun p H' _ s hp => q p H' s hp⟩
theorem mk_rat {H : Hp} {n d : Int} {Q : VK} {E : XK} (h : d ≠ 0) (bn : Bt 8000 n) (bd : Bt 8000 d) (q : NewRat C H Q (low n d).1 (low n d).2) (x dx : Addr) (nx : H x = none) (nd : H dx = none) :
    spRat K C CE [.ref x, .int n, .int d] (upd (upd H dx (.own x)) x (.ins C dx [])) (fun v H2 => v = .non ∧ Q (.ref x) H2) E := by
  refine ⟨x, dx, _, _, .i n, .i d, rfl, upd_same, .int n, .int d, fun n' d' e1 e2 _ => ?_, fun z => (nomatch z), fun _ z => z.elim (fun z => nomatch z) (fun z => by cases z; exact absurd rfl h)⟩
  cases e1
  cases e2
  refine ⟨bn, bd, rfl, ?_⟩
  rw [upd_upd]
  exact q x _ nx (Same.make nx nd) ⟨dx, upd_same⟩
theorem ok_neg {f fR : Addr} {fd fdR : FuncData} (F : Fun K "__neg__" "Ratio.__neg__" s_Ratio_D_negD_ f fd) (T : RatC K mg C CE fE fW fN fO)
    (M_Ratio : Mk K C fR) (G_Ratio : FnOk P w K mg base (L2.CX P w) 3 fR fdR ["self", "top", "bottom"] (spRat K C CE)) (b2_Ratio : Binds K fdR ["self", "top", "bottom"] []) : FnOk P w K mg base CX0 5 f fd ["self"] (spUn C fun n => -n) := by
  refine F.ok sc_Ratio_D_negD_ (fun vs H Q E h => ?_) (fun cdv A outer s H vs Q E r_Ratio h => ?_)
  · obtain ⟨_, _, _, rfl, _⟩ := h
    rfl
  · obtain ⟨a, n, d, rfl, ⟨dx, ha⟩, lo, bn, bd, q⟩ := h
    refine ⟨_, (pss_one (ps_ret (pe_make M_Ratio G_Ratio r_Ratio rfl T.g_Ratio b2_Ratio .nil passL (pa_cons (pe_un un_neg (pe_fld (pv 0) rfl)) (pa_cons (pe_fld (pv 0) rfl) pa_nil))))), ?_⟩
    refine ⟨_, rfl, a, C, dx, _, _, rfl, ha, T.cl, T.nT, ratF_top _ _, _, rfl, _, rfl, a, C, dx, _, _, rfl, ha, T.cl, T.nB, ratF_bottom _ _, fun x dy nx nd _ => ?_⟩
    exact mk_rat (by have := lo.1; omega) (bn.neg.mono (by decide)) (bd.mono (by decide)) (by rw [low_of (lo_neg lo)]; exact q) x dy nx nd
theorem ok_abs {f fR : Addr} {fd fdR : FuncData} (F : Fun K "__abs__" "Ratio.__abs__" s_Ratio_D_absD_ f fd) (T : RatC K mg C CE fE fW fN fO)
    (M_Ratio : Mk K C fR) (G_Ratio : FnOk P w K mg base (L2.CX P w) 3 fR fdR ["self", "top", "bottom"] (spRat K C CE)) (b2_Ratio : Binds K fdR ["self", "top", "bottom"] []) : FnOk P w K mg base CX0 5 f fd ["self"] (spUn C fun n => if n < 0 then -n else n) := by
  refine F.ok sc_Ratio_D_absD_ (fun vs H Q E h => ?_) (fun cdv A outer s H vs Q E r_Ratio h => ?_)
  · obtain ⟨_, _, _, rfl, _⟩ := h
    rfl
  · obtain ⟨a, n, d, rfl, ⟨dx, ha⟩, lo, bn, bd, q⟩ := h
    refine ⟨_, (pss_one (ps_ret (pe_make M_Ratio G_Ratio r_Ratio rfl T.g_Ratio b2_Ratio .nil passL (pa_cons (pe_callB call_abs (by rfl) T.abs (by decide +kernel) (pa_cons (pe_fld (pv 0) rfl) pa_nil)) (pa_cons (pe_fld (pv 0) rfl) pa_nil))))), ?_⟩
    refine ⟨_, rfl, a, C, dx, _, _, rfl, ha, T.cl, T.nT, ratF_top _ _, _, rfl, _, rfl, a, C, dx, _, _, rfl, ha, T.cl, T.nB, ratF_bottom _ _, fun x dy nx nd _ => ?_⟩
    exact mk_rat (by have := lo.1; omega) (bn.abs.mono (by decide)) (bd.mono (by decide)) (by rw [low_of (lo_abs lo)]; exact q) x dy nx nd
theorem add_bits {n d m e : Int} (h1 : Bt 1000 n) (h2 : Bt 1000 d) (h3 : Bt 1000 m) (h4 : Bt 1000 e) : Bt 8000 (n * e + m * d) ∧ Bt 8000 (d * e) ∧ Bt 8000 (n * m) :=
  ⟨((h1.mul h4).add (h3.mul h2)).mono (by decide), (h2.mul h4).mono (by decide), (h1.mul h3).mono (by decide)⟩
theorem ok_add {f fR : Addr} {fd fdR fdN fdO : FuncData} (F : Fun K "__add__" "Ratio.__add__" s_Ratio_D_addD_ f fd) (T : RatC K mg C CE fE fW fN fO) (G_number : FnOk P w K mg base CX0 2 fN fdN ["value"] (spNumber K C)) (b_number : Binds K fdN ["value"] [])
    (G_rof : FnOk P w K mg base (L2.CX P w) 5 fO fdO ["value"] (spRof K C CE)) (b_rof : Binds K fdO ["value"] [])
    (M_Ratio : Mk K C fR) (G_Ratio : FnOk P w K mg base (L2.CX P w) 3 fR fdR ["self", "top", "bottom"] (spRat K C CE)) (b2_Ratio : Binds K fdR ["self", "top", "bottom"] []) : FnOk P w K mg base CX0 6 f fd ["self", "other"] (spBin K C fAdd) := by
  refine F.ok sc_Ratio_D_addD_ (fun vs H Q E h => ?_) (fun cdv A outer s H vs Q E r_rof h => ?_)
  · obtain ⟨_, _, _, _, _, rfl, _⟩ := h
    rfl
  · obtain ⟨a, n, d, y, k, rfl, ⟨dx, ha⟩, hk, hN, lo, lk, b1, b2, b3, b4, q⟩ := h
    have r_number := r_rof.mono (show 2 ≤ 5 by decide)
    have r_Ratio := r_rof.mono (show 4 ≤ 5 by decide)
    refine ⟨_, (pss_cons (ps_if (pt_not (pt_val (pe_call G_number r_number rfl T.g_number T.k_number b_number .nil pass0 (pa_cons (pv 1) pa_nil))))
 (pss_one (ps_ret (pe_dead)))
 pss_nil)
 (pss_cons (ps_set (i := 2) sc_Ratio_D_addD_.nd rfl (Or.inl rfl) (pe_call G_rof r_rof rfl T.g_rof T.k_rof b_rof .nil passL (pa_cons (pv 1) pa_nil)))
 (pss_one (ps_ret (pe_make M_Ratio G_Ratio r_Ratio rfl T.g_Ratio b2_Ratio .nil passL (pa_cons (pe_op op_add (pe_op op_mulW (pe_fld (pv 0) rfl) (pe_fld (pv 2) rfl)) (pe_op op_mulW (pe_fld (pv 2) rfl) (pe_fld (pv 0) rfl))) (pa_cons (pe_op op_mulW (pe_fld (pv 0) rfl) (pe_fld (pv 2) rfl)) pa_nil))))))), ?_⟩
    refine ⟨_, rfl, y, k, rfl, hk, _, rfl, ?_⟩
    rw [hN]
    refine ⟨_, rfl, rof_use hk hN (b3.mono (by decide)) fun p H1 s1 ⟨dp, hp⟩ => ?_⟩
    have ha1 := s1 _ _ ha
    refine ⟨_, rfl, a, C, dx, _, _, rfl, ha1, T.cl, T.nT, ratF_top _ _, _, rfl, p, C, dp, _, _, rfl, hp, T.cl, T.nB, ratF_bottom _ _, _, _, rfl, rfl, b1.cm b4 (by decide) (by decide) (by decide), ?_⟩
    refine ⟨_, rfl, p, C, dp, _, _, rfl, hp, T.cl, T.nT, ratF_top _ _, _, rfl, a, C, dx, _, _, rfl, ha1, T.cl, T.nB, ratF_bottom _ _, _, _, rfl, rfl, b3.cm b2 (by decide) (by decide) (by decide), _, _, rfl, rfl, ?_⟩
    refine ⟨_, rfl, a, C, dx, _, _, rfl, ha1, T.cl, T.nB, ratF_bottom _ _, _, rfl, p, C, dp, _, _, rfl, hp, T.cl, T.nB, ratF_bottom _ _, _, _, rfl, rfl, b2.cm b4 (by decide) (by decide) (by decide), fun x dy nx nd _ => ?_⟩
    obtain ⟨c1, c2, _⟩ := add_bits b1 b2 b3 b4
    refine mk_rat (Int.mul_ne_zero (by have := lo.1; omega) (by have := lk.1; omega)) c1 c2 (fun z H' nz sz hz => ?_) x dy nx nd
    exact q z H' (s1.free nz) (s1.trans sz) hz
theorem ok_mul {f fR : Addr} {fd fdR fdN fdO : FuncData} (F : Fun K "__mul__" "Ratio.__mul__" s_Ratio_D_mulD_ f fd) (T : RatC K mg C CE fE fW fN fO) (G_number : FnOk P w K mg base CX0 2 fN fdN ["value"] (spNumber K C)) (b_number : Binds K fdN ["value"] [])
    (G_rof : FnOk P w K mg base (L2.CX P w) 5 fO fdO ["value"] (spRof K C CE)) (b_rof : Binds K fdO ["value"] [])
    (M_Ratio : Mk K C fR) (G_Ratio : FnOk P w K mg base (L2.CX P w) 3 fR fdR ["self", "top", "bottom"] (spRat K C CE)) (b2_Ratio : Binds K fdR ["self", "top", "bottom"] []) : FnOk P w K mg base CX0 6 f fd ["self", "other"] (spBin K C fMul) := by
  refine F.ok sc_Ratio_D_mulD_ (fun vs H Q E h => ?_) (fun cdv A outer s H vs Q E r_rof h => ?_)
  · obtain ⟨_, _, _, _, _, rfl, _⟩ := h
    rfl
  · obtain ⟨a, n, d, y, k, rfl, ⟨dx, ha⟩, hk, hN, lo, lk, b1, b2, b3, b4, q⟩ := h
    have r_number := r_rof.mono (show 2 ≤ 5 by decide)
    have r_Ratio := r_rof.mono (show 4 ≤ 5 by decide)
    refine ⟨_, (pss_cons (ps_if (pt_not (pt_val (pe_call G_number r_number rfl T.g_number T.k_number b_number .nil pass0 (pa_cons (pv 1) pa_nil))))
 (pss_one (ps_ret (pe_dead)))
 pss_nil)
 (pss_cons (ps_set (i := 2) sc_Ratio_D_mulD_.nd rfl (Or.inl rfl) (pe_call G_rof r_rof rfl T.g_rof T.k_rof b_rof .nil passL (pa_cons (pv 1) pa_nil)))
 (pss_one (ps_ret (pe_make M_Ratio G_Ratio r_Ratio rfl T.g_Ratio b2_Ratio .nil passL (pa_cons (pe_op op_mulW (pe_fld (pv 0) rfl) (pe_fld (pv 2) rfl)) (pa_cons (pe_op op_mulW (pe_fld (pv 0) rfl) (pe_fld (pv 2) rfl)) pa_nil))))))), ?_⟩
    refine ⟨_, rfl, y, k, rfl, hk, _, rfl, ?_⟩
    rw [hN]
    refine ⟨_, rfl, rof_use hk hN (b3.mono (by decide)) fun p H1 s1 ⟨dp, hp⟩ => ?_⟩
    have ha1 := s1 _ _ ha
    refine ⟨_, rfl, a, C, dx, _, _, rfl, ha1, T.cl, T.nT, ratF_top _ _, _, rfl, p, C, dp, _, _, rfl, hp, T.cl, T.nT, ratF_top _ _, _, _, rfl, rfl, b1.cm b3 (by decide) (by decide) (by decide), ?_⟩
    refine ⟨_, rfl, a, C, dx, _, _, rfl, ha1, T.cl, T.nB, ratF_bottom _ _, _, rfl, p, C, dp, _, _, rfl, hp, T.cl, T.nB, ratF_bottom _ _, _, _, rfl, rfl, b2.cm b4 (by decide) (by decide) (by decide), fun x dy nx nd _ => ?_⟩
    obtain ⟨_, c2, c1⟩ := add_bits b1 b2 b3 b4
    refine mk_rat (Int.mul_ne_zero (by have := lo.1; omega) (by have := lk.1; omega)) c1 c2 (fun z H' nz sz hz => ?_) x dy nx nd
    exact q z H' (s1.free nz) (s1.trans sz) hz
/-- self op other, other an int -/
def spBinI (C : Addr) (f : Int → Int → Int → Int → Int × Int) : Sp := fun vs H Q _ => ∃ (a : Addr) (n d i : Int), vs = [.ref a, .int i] ∧ RatAt C H a n d ∧ Lo n d ∧ Bt 1000 n ∧ Bt 1000 d ∧ Bt 1000 i ∧ NewRat C H Q (low (f n d i 1).1 (f n d i 1).2).1 (low (f n d i 1).1 (f n d i 1).2).2
theorem binI_of {f : Int → Int → Int → Int → Int × Int} {a : Addr} {i : Int} {H : Hp} {Q : VK} {E : XK} {n d : Int} (h : RatAt C H a n d) (lo : Lo n d) (b1 : Bt 1000 n) (b2 : Bt 1000 d) (b3 : Bt 1000 i) (q : NewRat C H Q (low (f n d i 1).1 (f n d i 1).2).1 (low (f n d i 1).1 (f n d i 1).2).2) :
    spBin K C f [.ref a, .int i] H Q E := ⟨a, n, d, _, .i i, rfl, h, .int i, rfl, lo, lo_one i, b1, b2, b3, Bt.one (by decide), q⟩
end
section
variable {P : Program} {w : World} {K : PySem.W.Frag} {mg : Str → Option Value} {base : Heap} {C CE fE fW fN fO fA gA fS gS fM gM fG fB : Addr}
theorem ok_radd {fd fdA : FuncData} (F : Fun K "__radd__" "Ratio.__radd__" s_Ratio_D_raddD_ gA fd) (T : RatO K mg C CE fE fW fN fO fA gA fS gS fM gM fG fB) (G_add : FnOk P w K mg base CX0 6 fA fdA ["self", "other"] (spBin K C fAdd)) (b_add : Binds K fdA ["self", "other"] []) : FnOk P w K mg base CX0 7 gA fd ["self", "other"] (spBinI C fAdd) := by
  refine F.ok sc_Ratio_D_raddD_ (fun vs H Q E h => ?_) (fun cdv A outer s H vs Q E r_add h => ?_)
  · obtain ⟨_, _, _, _, rfl, _⟩ := h
    rfl
  · obtain ⟨a, n, d, i, rfl, ⟨dx, ha⟩, lo, b1, b2, b3, q⟩ := h
    refine ⟨_, (pss_one (ps_ret (pe_op (op_binI G_add T.o_add T.i_add T.ir_add r_add b_add) (pv 0) (pv 1)))), ?_⟩
    exact ⟨_, rfl, _, rfl, a, dx, _, i, rfl, rfl, ha, binI_of ⟨dx, ha⟩ lo b1 b2 b3 q⟩
theorem ok_rmul {fd fdM : FuncData} (F : Fun K "__rmul__" "Ratio.__rmul__" s_Ratio_D_rmulD_ gM fd) (T : RatO K mg C CE fE fW fN fO fA gA fS gS fM gM fG fB) (G_mul : FnOk P w K mg base CX0 6 fM fdM ["self", "other"] (spBin K C fMul)) (b_mul : Binds K fdM ["self", "other"] []) : FnOk P w K mg base CX0 7 gM fd ["self", "other"] (spBinI C fMul) := by
  refine F.ok sc_Ratio_D_rmulD_ (fun vs H Q E h => ?_) (fun cdv A outer s H vs Q E r_mul h => ?_)
  · obtain ⟨_, _, _, _, rfl, _⟩ := h
    rfl
  · obtain ⟨a, n, d, i, rfl, ⟨dx, ha⟩, lo, b1, b2, b3, q⟩ := h
    refine ⟨_, (pss_one (ps_ret (pe_op (op_binI G_mul T.o_mul T.i_mul T.ir_mul r_mul b_mul) (pv 0) (pv 1)))), ?_⟩
    exact ⟨_, rfl, _, rfl, a, dx, _, i, rfl, rfl, ha, binI_of ⟨dx, ha⟩ lo b1 b2 b3 q⟩
theorem ok_sub {fd fdA fdG fdN fdO : FuncData} (F : Fun K "__sub__" "Ratio.__sub__" s_Ratio_D_subD_ fS fd) (T : RatO K mg C CE fE fW fN fO fA gA fS gS fM gM fG fB) (G_number : FnOk P w K mg base CX0 2 fN fdN ["value"] (spNumber K C)) (b_number : Binds K fdN ["value"] [])
    (G_rof : FnOk P w K mg base (L2.CX P w) 5 fO fdO ["value"] (spRof K C CE)) (b_rof : Binds K fdO ["value"] []) (G_add : FnOk P w K mg base CX0 6 fA fdA ["self", "other"] (spBin K C fAdd)) (b_add : Binds K fdA ["self", "other"] [])
    (G_neg : FnOk P w K mg base CX0 5 fG fdG ["self"] (spUn C fun n => -n)) (b_neg : Binds K fdG ["self"] []) : FnOk P w K mg base CX0 7 fS fd ["self", "other"] (spBin K C fSub) := by
  refine F.ok sc_Ratio_D_subD_ (fun vs H Q E h => ?_) (fun cdv A outer s H vs Q E r_add h => ?_)
  · obtain ⟨_, _, _, _, _, rfl, _⟩ := h
    rfl
  · obtain ⟨a, n, d, y, k, rfl, ⟨dx, ha⟩, hk, hN, lo, lk, b1, b2, b3, b4, q⟩ := h
    have r_number := r_add.mono (show 2 ≤ 6 by decide)
    have r_rof := r_add.mono (show 5 ≤ 6 by decide)
    have r_neg := r_add.mono (show 5 ≤ 6 by decide)
    refine ⟨_, (pss_cons (ps_if (pt_not (pt_val (pe_call G_number r_number rfl T.g_number T.k_number b_number .nil pass0 (pa_cons (pv 1) pa_nil))))
 (pss_one (ps_ret (pe_dead)))
 pss_nil)
 (pss_one (ps_ret (pe_op (op_binO G_add T.o_add r_add b_add) (pv 0) (pe_un (un_negO G_neg T.s_neg r_neg b_neg) (pe_call G_rof r_rof rfl T.g_rof T.k_rof b_rof .nil passL (pa_cons (pv 1) pa_nil))))))), ?_⟩
    refine ⟨_, rfl, y, k, rfl, hk, _, rfl, ?_⟩
    rw [hN]
    have core : ∀ p H1, Same H H1 → RatAt C H1 p k.top k.bot → rUnO C (spUn C fun n => -n) (.ref p) H1 (fun y' H2 => rBinO C (spBin K C fAdd) (.ref a) y' H2 Q) := fun p H1 s1 ⟨dp, hp⟩ => by
      refine ⟨p, dp, _, rfl, hp, p, _, _, rfl, ⟨dp, hp⟩, lk, b3.mono (by decide), b4.mono (by decide), fun z H2 nz s2 ⟨dz, hz⟩ => ?_⟩
      have s12 := s1.trans s2
      refine ⟨a, dx, _, z, dz, _, rfl, rfl, s12 _ _ ha, hz, a, n, d, _, .r (-k.top) k.bot, rfl, ⟨dx, s12 _ _ ha⟩, .rat ⟨dz, hz⟩, rfl, lo, lo_neg lk, b1, b2, b3.neg, b4, fun p' H' np' s' hp' => ?_⟩
      exact q p' H' (s12.free np') (s12.trans s') hp'
    refine ⟨_, rfl, _, rfl, y, k, rfl, hk, fun n' d' e => ?_, fun z e => ⟨?_, fun p H' _ s' hp => ?_⟩, fun e => by rw [e] at hN; cases hN⟩
    · subst e
      cases hk with
      | rat h => exact core _ H (Same.refl H) h
    · subst e
      exact b3.mono (by decide)
    · subst e
      exact core p H' s' hp
theorem ok_rsub {fd fdA fdG fdN fdO : FuncData} (F : Fun K "__rsub__" "Ratio.__rsub__" s_Ratio_D_rsubD_ gS fd) (T : RatO K mg C CE fE fW fN fO fA gA fS gS fM gM fG fB) (G_number : FnOk P w K mg base CX0 2 fN fdN ["value"] (spNumber K C)) (b_number : Binds K fdN ["value"] [])
    (G_rof : FnOk P w K mg base (L2.CX P w) 5 fO fdO ["value"] (spRof K C CE)) (b_rof : Binds K fdO ["value"] []) (G_add : FnOk P w K mg base CX0 6 fA fdA ["self", "other"] (spBin K C fAdd)) (b_add : Binds K fdA ["self", "other"] [])
    (G_neg : FnOk P w K mg base CX0 5 fG fdG ["self"] (spUn C fun n => -n)) (b_neg : Binds K fdG ["self"] []) : FnOk P w K mg base CX0 7 gS fd ["self", "other"] (spBin K C fRsub) := by
  refine F.ok sc_Ratio_D_rsubD_ (fun vs H Q E h => ?_) (fun cdv A outer s H vs Q E r_add h => ?_)
  · obtain ⟨_, _, _, _, _, rfl, _⟩ := h
    rfl
  · obtain ⟨a, n, d, y, k, rfl, ⟨dx, ha⟩, hk, hN, lo, lk, b1, b2, b3, b4, q⟩ := h
    have r_number := r_add.mono (show 2 ≤ 6 by decide)
    have r_rof := r_add.mono (show 5 ≤ 6 by decide)
    have r_neg := r_add.mono (show 5 ≤ 6 by decide)
    refine ⟨_, (pss_cons (ps_if (pt_not (pt_val (pe_call G_number r_number rfl T.g_number T.k_number b_number .nil pass0 (pa_cons (pv 1) pa_nil))))
 (pss_one (ps_ret (pe_dead)))
 pss_nil)
 (pss_one (ps_ret (pe_op (op_binO G_add T.o_add r_add b_add) (pe_call G_rof r_rof rfl T.g_rof T.k_rof b_rof .nil passL (pa_cons (pv 1) pa_nil)) (pe_un (un_negO G_neg T.s_neg r_neg b_neg) (pv 0)))))), ?_⟩
    refine ⟨_, rfl, y, k, rfl, hk, _, rfl, ?_⟩
    rw [hN]
    have core : ∀ p H1, Same H H1 → RatAt C H1 p k.top k.bot → rUnO C (spUn C fun n => -n) (.ref a) H1 (fun y' H2 => rBinO C (spBin K C fAdd) (.ref p) y' H2 Q) := fun p H1 s1 ⟨dp, hp⟩ => by
      have ha1 := s1 _ _ ha
      refine ⟨a, dx, _, rfl, ha1, a, _, _, rfl, ⟨dx, ha1⟩, lo, b1.mono (by decide), b2.mono (by decide), fun z H2 nz s2 ⟨dz, hz⟩ => ?_⟩
      refine ⟨p, dp, _, z, dz, _, rfl, rfl, s2 _ _ hp, hz, p, k.top, k.bot, _, .r (-n) d, rfl, ⟨dp, s2 _ _ hp⟩, .rat ⟨dz, hz⟩, rfl, lk, lo_neg lo, b3, b4, b1.neg, b2, fun p' H' np' s' hp' => ?_⟩
      exact q p' H' (s1.free (s2.free np')) ((s1.trans s2).trans s') hp'
    refine ⟨_, rfl, y, k, rfl, hk, fun n' d' e => ?_, fun z e => ⟨?_, fun p H' _ s' hp => ?_⟩, fun e => by rw [e] at hN; cases hN⟩
    · subst e
      cases hk with
      | rat h => exact ⟨_, rfl, core _ H (Same.refl H) h⟩
    · subst e
      exact b3.mono (by decide)
    · subst e
      exact ⟨_, rfl, core p H' s' hp⟩
end
end Mine
namespace Mine
open PySem PySem.Spec PyProof.Rows L2
structure TxtQ (K : PySem.W.Frag) (mg : Str → Option Value) (C CE fE fW fN fO fP fLo : Addr) : Prop extends RatC K mg C CE fE fW fN fO where
  g_pull : mg "_law_pull" = some (.ref fP)
  k_pull : PySem.W.keepIn K (.ref fP) = true
  g_low : mg "_law_low" = some (.ref fLo)
  k_low : PySem.W.keepIn K (.ref fLo) = true
/-- a new pair of ints -/
def NewPair (H : Hp) (Q : VK) (n d : Int) : Prop := ∀ (p : Addr) (H' : Hp), H p = none → Same H H' → H' p = some (.tup [.int n, .int d]) → Q (.ref p) H'
def spLow : Sp := fun vs H Q _ => ∃ n d : Int, vs = [.int n, .int d] ∧ d ≠ 0 ∧ Bt 4000 n ∧ Bt 4000 d ∧ NewPair H Q (low n d).1 (low n d).2
def spOn2 (K : PySem.W.Frag) (f : Int → Int → Int → Int → Int × Int) : Sp := fun vs H Q _ => ∃ (t u : Addr) (n d m e : Int), vs = [.ref t, .ref u] ∧ SqT K H t [.int n, .int d] ∧ SqT K H u [.int m, .int e] ∧ d ≠ 0 ∧ e ≠ 0 ∧ Bt 1000 n ∧ Bt 1000 d ∧ Bt 1000 m ∧ Bt 1000 e ∧
  NewPair H Q (low (f n d m e).1 (f n d m e).2).1 (low (f n d m e).1 (f n d m e).2).2
def spPair (C : Addr) : Sp := fun vs H Q _ => ∃ (a : Addr) (n d : Int), vs = [.ref a] ∧ RatAt C H a n d ∧ NewPair H Q n d
def spLRatio (K : PySem.W.Frag) (C : Addr) : Sp := fun vs H Q _ => ∃ (t : Addr) (n d : Int), vs = [.ref t] ∧ SqT K H t [.int n, .int d] ∧ d ≠ 0 ∧ Bt 8000 n ∧ Bt 8000 d ∧ NewRat C H Q (low n d).1 (low n d).2
def spSmall : Sp := fun vs H Q _ => ∃ b : Addr, vs = [.ref b] ∧ Bag H b ∧ ∀ (z : Int) (o : HO), Bt 20 z → Bag (upd H b o) b → Q (.int z) (upd H b o)
theorem low_sign {n d : Int} (h : d ≠ 0) : ((if d < 0 then (-1 : Int) else 1) * n).fdiv ((Nat.gcd n.natAbs d.natAbs : Nat) : Int) = (low n d).1 ∧ ((if d < 0 then (-1 : Int) else 1) * d).fdiv ((Nat.gcd n.natAbs d.natAbs : Nat) : Int) = (low n d).2 := by
  have d1 : ((Nat.gcd n.natAbs d.natAbs : Nat) : Int) ∣ n := by rw [← Int.natAbs_dvd_natAbs, Int.natAbs_natCast]; exact Nat.gcd_dvd_left _ _
  have d2 : ((Nat.gcd n.natAbs d.natAbs : Nat) : Int) ∣ d := by rw [← Int.natAbs_dvd_natAbs, Int.natAbs_natCast]; exact Nat.gcd_dvd_right _ _
  unfold low sgcd
  split
  · rw [Int.neg_mul, Int.neg_mul, Int.one_mul, Int.one_mul, Int.fdiv_eq_ediv_of_dvd (Int.dvd_neg.mpr d1), Int.fdiv_eq_ediv_of_dvd (Int.dvd_neg.mpr d2), Int.fdiv_eq_ediv_of_dvd (Int.neg_dvd.mpr d1), Int.fdiv_eq_ediv_of_dvd (Int.neg_dvd.mpr d2), Int.ediv_neg, Int.ediv_neg, Int.neg_ediv_of_dvd d1, Int.neg_ediv_of_dvd d2]
    exact ⟨rfl, rfl⟩
  · rw [Int.one_mul, Int.one_mul]
    exact ⟨rfl, rfl⟩
theorem abs_nat (z : Int) : (if z < 0 then -z else z) = ((z.natAbs : Nat) : Int) := by split <;> omega
section
variable {P : Program} {w : World} {K : PySem.W.Frag} {mg : Str → Option Value} {base : Heap} {C CE fE fW fN fO fP fLo : Addr}
theorem ok_low {fd : FuncData} (F : Fun K "_law_low" "_law_low" s_L_low fLo fd) (T : TxtQ K mg C CE fE fW fN fO fP fLo) : FnOk P w K mg base CX0 1 fLo fd ["_law_top", "_law_bottom"] spLow := by
  refine F.ok sc_L_low (fun vs H Q E h => ?_) (fun cdv A outer s H vs Q E hr h => ?_)
  · obtain ⟨_, _, rfl, _⟩ := h
    rfl
  · obtain ⟨n, d, rfl, hd, bn, bd, q⟩ := h
    refine ⟨_, (pss_cons (ps_par (i := 2) (j := 3) (by rfl) sc_L_low.nd rfl rfl (by decide) rfl rfl (pa_cons (pe_callB call_abs (by rfl) T.abs (by decide +kernel) (pa_cons (pv 0) pa_nil)) (pa_cons (pe_callB call_abs (by rfl) T.abs (by decide +kernel) (pa_cons (pv 1) pa_nil)) pa_nil)) (by rfl))
 (Evl.pss_cut (ps_while PassesOwn.never (pt_cmpR op_ne (pv 3) pe_int (nomark _))
 (pss_one (ps_par (i := 2) (j := 3) (by rfl) sc_L_low.nd rfl rfl (by decide) rfl rfl (pa_cons (pv 3) (pa_cons (pe_op op_mod (pe_callTy call_int1 (by rfl) T.int (by decide +kernel) (pa_cons (pv 2) pa_nil)) (pv 3)) pa_nil)) (by rfl))))
 (pss_cons (ps_set (i := 4) sc_L_low.nd rfl (Or.inl rfl) (pe_ifExp (pt_cmpR op_lt (pv 1) pe_int (nomark _)) (pe_un un_neg pe_int) pe_int))
 (pss_one (ps_ret (pe_tup (pa_cons (pe_op op_fdivG (pe_op op_mulW (pv 4) (pv 0)) (pv 2)) (pa_cons (pe_op op_fdivG (pe_op op_mulW (pv 4) (pv 1)) (pv 2)) pa_nil)))))))), ?_⟩
    refine ⟨_, rfl, _, rfl, _, rfl, _, rfl, _, _, rfl, ?_⟩
    rw [abs_nat, abs_nat]
    refine ⟨fun σ' H' => σ' = [some (.int n), some (.int d), some (.int ((Nat.gcd n.natAbs d.natAbs : Nat) : Int)), some (.int 0), none] ∧ H' = H, ?_, ?_⟩
    · refine ⟨fun m σ' H' => ∃ x y : Nat, σ' = [some (.int n), some (.int d), some (.int x), some (.int y), none] ∧ H' = H ∧ m = y ∧ Nat.gcd x y = Nat.gcd n.natAbs d.natAbs, ⟨_, n.natAbs, d.natAbs, rfl, rfl, rfl, rfl⟩, ?_⟩
      rintro m σ' H' ⟨x, y, rfl, rfl, rfl, hg⟩
      refine ⟨_, rfl, rfl, _, rfl, ?_⟩
      by_cases y0 : m = 0
      · subst y0
        rw [Nat.gcd_zero_right] at hg
        subst hg
        exact ⟨rfl, rfl⟩
      · have ne : (!decide (V.int (m : Int) = V.int 0)) = true := by
          rw [decide_eq_false fun z => y0 (by have := V.int.inj z; omega)]
          rfl
        refine itT ne ?_
        refine ⟨fun σ' H'' => ∃ x' y' : Nat, σ' = [some (.int n), some (.int d), some (.int x'), some (.int y'), none] ∧ H'' = H' ∧ y' < m ∧ Nat.gcd x' y' = Nat.gcd n.natAbs d.natAbs, ?_, ?_⟩
        · rintro σ' H'' ⟨x', y', rfl, rfl, hl, hg'⟩
          exact ⟨y', hl, x', y', rfl, rfl, rfl, hg'⟩
        · refine ⟨_, rfl, _, rfl, .inl ⟨_, rfl, _, rfl, _, _, rfl, rfl, (by show (0 : Int) < (m : Int); omega), _, _, rfl, m, x % m, rfl, rfl, Nat.mod_lt _ (by omega), ?_⟩⟩
          rw [Nat.gcd_comm, ← Nat.gcd_rec, Nat.gcd_comm]
          exact hg
    · rintro σ' H' ⟨rfl, rfl⟩
      have g0 : 0 < Nat.gcd n.natAbs d.natAbs := Nat.gcd_pos_of_pos_right _ (by omega)
      have gb : Bt 4000 ((Nat.gcd n.natAbs d.natAbs : Nat) : Int) := by
        show (((Nat.gcd n.natAbs d.natAbs : Nat) : Int)).natAbs < _
        rw [Int.natAbs_natCast]
        exact Nat.lt_of_le_of_lt (Nat.gcd_le_right _ (by omega)) bd
      have cd : ∀ i, CDivG i ((Nat.gcd n.natAbs d.natAbs : Nat) : Int) := fun i => ⟨by omega, Nat.lt_of_lt_of_le (PySem.Flt.log2_lt_of (by decide) gb) (by decide)⟩
      obtain ⟨e1, e2⟩ := low_sign (n := n) hd
      refine ⟨_, rfl, _, _, rfl, rfl, _, rfl, ?_⟩
      by_cases dn : d < 0
      · refine itT (decide_eq_true dn) ?_
        rw [if_pos dn] at e1 e2
        refine ⟨_, rfl, _, rfl, _, rfl, _, _, rfl, rfl, (Bt.one (k := 1) (by decide)).neg.cm bn (by decide) (by decide) (by decide), _, rfl, _, _, rfl, rfl, cd _, ?_⟩
        refine ⟨_, rfl, _, rfl, _, _, rfl, rfl, (Bt.one (k := 1) (by decide)).neg.cm bd (by decide) (by decide) (by decide), _, rfl, _, _, rfl, rfl, cd _, sz2, fun p np => ?_⟩
        rw [← e1, ← e2] at q
        exact q p _ np (Same.new np) upd_same
      · refine itF (decide_eq_false dn) ?_
        rw [if_neg dn] at e1 e2
        refine ⟨_, rfl, _, rfl, _, _, rfl, rfl, (Bt.one (k := 1) (by decide)).cm bn (by decide) (by decide) (by decide), _, rfl, _, _, rfl, rfl, cd _, ?_⟩
        refine ⟨_, rfl, _, rfl, _, _, rfl, rfl, (Bt.one (k := 1) (by decide)).cm bd (by decide) (by decide) (by decide), _, rfl, _, _, rfl, rfl, cd _, sz2, fun p np => ?_⟩
        rw [← e1, ← e2] at q
        exact q p _ np (Same.new np) upd_same
theorem ok_plus {f : Addr} {fd fdL : FuncData} (F : Fun K "_law_plus" "_law_plus" s_L_plus f fd) (T : TxtQ K mg C CE fE fW fN fO fP fLo) (G_low : FnOk P w K mg base CX0 1 fLo fdL ["_law_top", "_law_bottom"] spLow) (b_low : Binds K fdL ["_law_top", "_law_bottom"] []) : FnOk P w K mg base CX0 2 f fd ["_law_one", "_law_other"] (spOn2 K fAdd) := by
  refine F.ok sc_L_plus (fun vs H Q E h => ?_) (fun cdv A outer s H vs Q E r_low h => ?_)
  · obtain ⟨_, _, _, _, _, _, rfl, _⟩ := h
    rfl
  · obtain ⟨t, u, n, d, m, e, rfl, ht, hu, d0, e0, b1, b2, b3, b4, q⟩ := h
    refine ⟨_, (pss_one (ps_ret (pe_call G_low r_low rfl T.g_low T.k_low b_low .nil pass0 (pa_cons (pe_op op_add (pe_op op_mulW (pe_ix ix_tup (pv 0) pe_int (fun _ _ => rfl)) (pe_ix ix_tup (pv 1) pe_int (fun _ _ => rfl))) (pe_op op_mulW (pe_ix ix_tup (pv 1) pe_int (fun _ _ => rfl)) (pe_ix ix_tup (pv 0) pe_int (fun _ _ => rfl)))) (pa_cons (pe_op op_mulW (pe_ix ix_tup (pv 0) pe_int (fun _ _ => rfl)) (pe_ix ix_tup (pv 1) pe_int (fun _ _ => rfl))) pa_nil))))), ?_⟩
    refine ⟨_, rfl, t, _, 0, _, rfl, rfl, ht, rfl, _, rfl, u, _, 1, _, rfl, rfl, hu, rfl, _, _, rfl, rfl, b1.cm b4 (by decide) (by decide) (by decide), ?_⟩
    refine ⟨_, rfl, u, _, 0, _, rfl, rfl, hu, rfl, _, rfl, t, _, 1, _, rfl, rfl, ht, rfl, _, _, rfl, rfl, b3.cm b2 (by decide) (by decide) (by decide), _, _, rfl, rfl, ?_⟩
    refine ⟨_, rfl, t, _, 1, _, rfl, rfl, ht, rfl, _, rfl, u, _, 1, _, rfl, rfl, hu, rfl, _, _, rfl, rfl, b2.cm b4 (by decide) (by decide) (by decide), ?_⟩
    exact ⟨_, _, rfl, Int.mul_ne_zero d0 e0, ((b1.mul b4).add (b3.mul b2)).mono (by decide), (b2.mul b4).mono (by decide), q⟩
theorem ok_cross {f : Addr} {fd fdL : FuncData} (F : Fun K "_law_cross" "_law_cross" s_L_cross f fd) (T : TxtQ K mg C CE fE fW fN fO fP fLo) (G_low : FnOk P w K mg base CX0 1 fLo fdL ["_law_top", "_law_bottom"] spLow) (b_low : Binds K fdL ["_law_top", "_law_bottom"] []) : FnOk P w K mg base CX0 2 f fd ["_law_one", "_law_other"] (spOn2 K fMul) := by
  refine F.ok sc_L_cross (fun vs H Q E h => ?_) (fun cdv A outer s H vs Q E r_low h => ?_)
  · obtain ⟨_, _, _, _, _, _, rfl, _⟩ := h
    rfl
  · obtain ⟨t, u, n, d, m, e, rfl, ht, hu, d0, e0, b1, b2, b3, b4, q⟩ := h
    refine ⟨_, (pss_one (ps_ret (pe_call G_low r_low rfl T.g_low T.k_low b_low .nil pass0 (pa_cons (pe_op op_mulW (pe_ix ix_tup (pv 0) pe_int (fun _ _ => rfl)) (pe_ix ix_tup (pv 1) pe_int (fun _ _ => rfl))) (pa_cons (pe_op op_mulW (pe_ix ix_tup (pv 0) pe_int (fun _ _ => rfl)) (pe_ix ix_tup (pv 1) pe_int (fun _ _ => rfl))) pa_nil))))), ?_⟩
    refine ⟨_, rfl, t, _, 0, _, rfl, rfl, ht, rfl, _, rfl, u, _, 0, _, rfl, rfl, hu, rfl, _, _, rfl, rfl, b1.cm b3 (by decide) (by decide) (by decide), ?_⟩
    refine ⟨_, rfl, t, _, 1, _, rfl, rfl, ht, rfl, _, rfl, u, _, 1, _, rfl, rfl, hu, rfl, _, _, rfl, rfl, b2.cm b4 (by decide) (by decide) (by decide), ?_⟩
    exact ⟨_, _, rfl, Int.mul_ne_zero d0 e0, (b1.mul b3).mono (by decide), (b2.mul b4).mono (by decide), q⟩
theorem ok_lratio {f fR : Addr} {fd fdR : FuncData} (F : Fun K "_law_ratio" "_law_ratio" s_L_ratio f fd) (T : RatC K mg C CE fE fW fN fO)
    (M_Ratio : Mk K C fR) (G_Ratio : FnOk P w K mg base (L2.CX P w) 3 fR fdR ["self", "top", "bottom"] (spRat K C CE)) (b2_Ratio : Binds K fdR ["self", "top", "bottom"] []) : FnOk P w K mg base CX0 5 f fd ["_law_pair_here"] (spLRatio K C) := by
  refine F.ok sc_L_ratio (fun vs H Q E h => ?_) (fun cdv A outer s H vs Q E r_Ratio h => ?_)
  · obtain ⟨_, _, _, rfl, _⟩ := h
    rfl
  · obtain ⟨t, n, d, rfl, ht, d0, b1, b2, q⟩ := h
    refine ⟨_, (pss_one (ps_ret (pe_make M_Ratio G_Ratio r_Ratio rfl T.g_Ratio b2_Ratio .nil passL (pa_cons (pe_ix ix_tup (pv 0) pe_int (fun _ _ => rfl)) (pa_cons (pe_ix ix_tup (pv 0) pe_int (fun _ _ => rfl)) pa_nil))))), ?_⟩
    refine ⟨_, rfl, t, _, 0, _, rfl, rfl, ht, rfl, _, rfl, t, _, 1, _, rfl, rfl, ht, rfl, fun x dx nx nd _ => ?_⟩
    exact mk_rat d0 b1 b2 q x dx nx nd
theorem ok_small {f : Addr} {fd fdP : FuncData} (F : Fun K "_law_small" "_law_small" s_L_small f fd) (T : TxtQ K mg C CE fE fW fN fO fP fLo) (G_pull : FnOk P w K mg base CX0 1 fP fdP ["_law_bag_here", "_law_many"] spPull) (b_pull : Binds K fdP ["_law_bag_here", "_law_many"] []) : FnOk P w K mg base CX0 2 f fd ["_law_bag_here"] spSmall := by
  refine F.ok sc_L_small (fun vs H Q E h => ?_) (fun cdv A outer s H vs Q E r_pull h => ?_)
  · obtain ⟨_, rfl, _⟩ := h
    rfl
  · obtain ⟨b, rfl, hb, k⟩ := h
    refine ⟨_, (pss_cons (ps_set (i := 1) sc_L_small.nd rfl (Or.inl rfl) (pe_call G_pull r_pull rfl T.g_pull T.k_pull b_pull .nil pass0 (pa_cons (pv 0) (pa_cons pe_int pa_nil))))
 (pss_cons (ps_if (pt_cmpR op_lt (pv 1) pe_int (nomark _))
 (pss_one (ps_ret (pe_op op_sub (pv 1) pe_int)))
 pss_nil)
 (pss_one (ps_ret (pe_op op_mulW (pe_op op_sub pe_int (pe_op op_mulW pe_int (pe_op op_mod (pv 1) pe_int))) (pe_op op_add pe_int (pe_call G_pull r_pull rfl T.g_pull T.k_pull b_pull .nil pass0 (pa_cons (pv 0) (pa_cons pe_int pa_nil))))))))), ?_⟩
    refine ⟨_, rfl, b, 9, rfl, hb, by decide, by decide, fun d o d0 d1 hb1 => ?_⟩
    refine ⟨_, rfl, _, _, rfl, rfl, _, rfl, ?_⟩
    by_cases c : d < 7
    · refine itT (decide_eq_true c) ?_
      refine ⟨_, rfl, _, _, rfl, rfl, k _ o ?_ hb1⟩
      show (d - 3).natAbs < 2 ^ 20
      omega
    · refine itF (decide_eq_false c) ?_
      have m0 : 0 ≤ d % 2 := Int.emod_nonneg _ (by decide)
      have m1 : d % 2 < 2 := Int.emod_lt_of_pos _ (by decide)
      have bs : Bt 1 (d % 2) := by show (d % 2).natAbs < 2; omega
      have bs2 : Bt 2 (1 - 2 * (d % 2)) := by show (1 - 2 * (d % 2)).natAbs < 4; omega
      refine ⟨_, rfl, _, _, rfl, rfl, (by show (0 : Int) < 2; decide), _, _, rfl, rfl, (show Bt 2 2 by show (2 : Int).natAbs < 2 ^ 2; decide).cm bs (by decide) (by decide) (by decide), _, _, rfl, rfl, ?_⟩
      refine ⟨_, rfl, b, 100000, rfl, hb1, by decide, by decide, fun e o2 e0 e1 hb2 => ?_⟩
      have bz : Bt 17 (4 + e) := by show (4 + e).natAbs < 2 ^ 17; omega
      refine ⟨_, _, rfl, rfl, _, _, rfl, rfl, bs2.cm bz (by decide) (by decide) (by decide), ?_⟩
      rw [upd_upd] at hb2 ⊢
      exact k _ o2 ((bs2.mul bz).mono (by decide)) hb2
theorem ok_pair_ {f : Addr} {fd : FuncData} (F : Fun K "_law_pair" "_law_pair" s_L_pair f fd) (T : RatC K mg C CE fE fW fN fO) : FnOk P w K mg base CX0 1 f fd ["_law_found"] (spPair C) := by
  refine F.ok sc_L_pair (fun vs H Q E h => ?_) (fun cdv A outer s H vs Q E hr h => ?_)
  · obtain ⟨_, _, _, rfl, _⟩ := h
    rfl
  · obtain ⟨a, n, d, rfl, ⟨dx, ha⟩, q⟩ := h
    refine ⟨_, (pss_cons (ps_if (pt_not (pt_val (pe_callB (id := "isinstance") call_isi (by rfl) T.isinstance (by decide +kernel) (pa_cons (pv 0) (pa_cons (pe_glob (v := .ref _) rfl T.g_Ratio rfl) pa_nil)))))
 (pss_one (ps_ret pe_non))
 pss_nil)
 (pss_cons (ps_setLc (i := 1) (own := [("_law_part", 2)]) (g := (gName 2)) (tt := tYes) (te := tAndV (tCB (rIsi K) (tCons (tVar 2) (tCons (tC (.ty "int")) tNil))) (tNotV (tCB (rIsi K) (tCons (tVar 2) (tCons (tC (.ty "bool")) tNil))))) rfl sc_L_pair.nd rfl rfl (by rfl) (pi_list (pe_lst (pa_cons (pe_fld (pv 0) rfl) (pa_cons (pe_fld (pv 0) rfl) pa_nil)))) (blkOk_by (own := [("_law_part", 2)]) (N := ["_law_found", "_law_whole", "_law_part"]) (sc := defScope s_L_pair) (by decide +kernel)) (fun _ _ _ _ _ => (pg_name (i := 2) sc_L_pair.nd rfl (Or.inl rfl))) (fun _ _ _ _ _ => pts_nil) (fun _ _ _ _ _ => (pe_and (pe_callB (id := "isinstance") call_isi (by rfl) T.isinstance (by decide +kernel) (pa_cons (pv 2) (pa_cons (pe_bltn (v := .ty "int") (by rfl) T.int (by decide +kernel) rfl) pa_nil))) (pe_one (pe_not (pe_callB (id := "isinstance") call_isi (by rfl) T.isinstance (by decide +kernel) (pa_cons (pv 2) (pa_cons (pe_bltn (v := .ty "bool") (by rfl) T.bool (by decide +kernel) rfl) pa_nil))))))))
 (pss_one (ps_ret (pe_ifExp (pt_cmpR (op_eqD (hu64 hr)) (pv 1) (pe_lst (pa_cons pe_bl (pa_cons pe_bl pa_nil))) (nomark _)) (pe_tup (pa_cons (pe_fld (pv 0) rfl) (pa_cons (pe_fld (pv 0) rfl) pa_nil))) pe_non))))), ?_⟩
    refine ⟨_, rfl, _, _, _, _, _, rfl, .own C, T.tyi _ _ _ _ ha, kit_self, true, rfl, ?_⟩
    refine ⟨_, rfl, a, C, dx, _, _, rfl, ha, T.cl, T.nT, ratF_top _ _, _, rfl, a, C, dx, _, _, rfl, ha, T.cl, T.nB, ratF_bottom _ _, sz2, fun l nl => ⟨l, rfl, ⟨_, SqL.of upd_same⟩, fun D nD => ?_⟩⟩
    have s1 : Same H (upd H l (.lst [.int n, .int d])) := Same.new nl
    refine lc_list (K := K) (xs := [.int n, .int d]) (fun i H' => Same (upd H l (.lst [.int n, .int d])) H' ∧ H' D = some (.lst ((List.replicate i true).map V.bl))) ⟨Same.new nD, upd_same⟩ (fun i H' _ z => SqL.of (z.1 _ _ upd_same)) ?_ ?_
    · rintro i v H2 hv ⟨s2, hD⟩
      have hi : i < 2 := (List.getElem?_eq_some_iff.mp hv).1
      have ev : ∃ z, v = .int z := by
        match i, hi, hv with
        | 0, _, hv => cases hv; exact ⟨_, rfl⟩
        | 1, _, hv => cases hv; exact ⟨_, rfl⟩
      obtain ⟨z, rfl⟩ := ev
      refine ⟨rfl, _, rfl, _, _, _, _, _, rfl, .ty _, dp_ty (.int z), kit_int (.int z), true, rfl, ?_⟩
      refine ⟨_, rfl, _, _, _, _, _, rfl, .ty _, dp_ty (.int z), kit_bool (.int z), _, rfl, _, hD, ?_, fun c o e => ?_, ?_⟩
      · rw [List.length_map, List.length_replicate]
        exact small1000 (by omega)
      · rw [upd_ne (ne_of_none e nD)]
        exact s2 _ _ e
      · rw [upd_same, List.replicate_succ', List.map_append]
        rfl
    · rintro H2 ⟨s2, hD⟩
      refine ⟨_, rfl, sz2, fun m nm => ⟨.list [.bool true, .bool true], .list [.bool true, .bool true], .lst (SqL.of ((Same.new nm) _ _ hD)) (.cons (.bl _) (.cons (.bl _) .nil)), .lst (SqL.of upd_same) (.cons (.bl _) (.cons (.bl _) .nil)), by decide +kernel, by decide +kernel, ?_⟩⟩
      have s3 := s1.trans (s2.trans (Same.new (o := .lst [.bl true, .bl true]) nm))
      have ha3 := s3 _ _ ha
      refine ⟨_, rfl, ?_⟩
      refine itT (by decide +kernel) ?_
      exact ⟨_, rfl, a, C, dx, _, _, rfl, ha3, T.cl, T.nT, ratF_top _ _, _, rfl, a, C, dx, _, _, rfl, ha3, T.cl, T.nB, ratF_bottom _ _, sz2, fun t nt => q t _ (s3.free nt) (s3.trans (Same.new nt)) upd_same⟩
end
end Mine
namespace Mine
open PySem PySem.Spec PyProof.Rows L2
def spOver (K : PySem.W.Frag) (C CE : Addr) : Sp := fun vs H Q E => ∃ (a : Addr) (n d : Int) (y : V) (k : Kr), vs = [.ref a, y] ∧ RatAt C H a n d ∧ KindR K C H y k ∧ Lo n d ∧ 0 < k.bot ∧ Bt 1000 n ∧ Bt 1000 d ∧ Bt 1000 k.top ∧ Bt 1000 k.bot ∧
  (k.isN = true → k.top ≠ 0 → NewRat C H Q (low (n * k.bot) (d * k.top)).1 (low (n * k.bot) (d * k.top)).2) ∧ (k.isN = false ∨ k.top = 0 → ∀ H', Same H H' → Inval CE H' E y)
section
variable {P : Program} {w : World} {K : PySem.W.Frag} {mg : Str → Option Value} {base : Heap} {C CE fE fW fN fO : Addr}
theorem raise_eq {H H' : Hp} {p d' : Addr} {v : V} (np : H p = none) (ne : d' ≠ p) (h3 : ∀ b, b ≠ p → b ≠ d' → H' b = upd H p (exo p CE none) b) : upd (del H' p) d' (invD v) = upd H d' (invD v) := by
  funext b
  by_cases hb : b = d'
  · rw [hb, upd_same, upd_same]
  · rw [upd_ne hb, upd_ne hb]
    by_cases hba : b = p
    · rw [hba, del_same, np]
    · rw [del_ne hba, h3 b hba hb, upd_ne hba]
theorem ok_over {f fR : Addr} {fd fdR fdN fdO fdE : FuncData} (F : Fun K "over" "Ratio.over" s_Ratio_over f fd) (T : RatC K mg C CE fE fW fN fO) (G_number : FnOk P w K mg base CX0 2 fN fdN ["value"] (spNumber K C)) (b_number : Binds K fdN ["value"] [])
    (G_rof : FnOk P w K mg base (L2.CX P w) 5 fO fdO ["value"] (spRof K C CE)) (b_rof : Binds K fdO ["value"] []) (G_InvalidNumber : FnOk P w K mg base CX0 1 fE fdE ["self", "given"] (spErr1 CE "InvalidNumber" "given")) (b_InvalidNumber : Binds K fdE ["self", "given"] [])
    (M_Ratio : Mk K C fR) (G_Ratio : FnOk P w K mg base (L2.CX P w) 3 fR fdR ["self", "top", "bottom"] (spRat K C CE)) (b2_Ratio : Binds K fdR ["self", "top", "bottom"] []) : FnOk P w K mg base (L2.CX P w) 6 f fd ["self", "other"] (spOver K C CE) := by
  refine F.okX sc_Ratio_over (fun vs H Q E h => ?_) (fun cdv A outer s H vs Q E r_rof h => ?_)
  · obtain ⟨_, _, _, _, _, rfl, _⟩ := h
    rfl
  · obtain ⟨a, n, d, y, k, rfl, ⟨dx, ha⟩, hk, lo, kb, b1, b2, b3, b4, q, qE⟩ := h
    have r_number := r_rof.mono (show 2 ≤ 5 by decide)
    have r_Ratio := r_rof.mono (show 4 ≤ 5 by decide)
    have r_InvalidNumber := r_rof.mono (show 2 ≤ 5 by decide)
    refine ⟨_, (pss_cons (ps_if (PW.pt (pw_or (pt_not (pt_val (pe_call G_number r_number rfl T.g_number T.k_number b_number .nil pass0 (pa_cons (pv 1) pa_nil)))) (pw_or1 (pt_cmpR op_eq (pe_fld (pe_call G_rof r_rof rfl T.g_rof T.k_rof b_rof .nil passL (pa_cons (pv 1) pa_nil)) rfl) pe_int (nomark _)))))
 (pss_one (ps_raise rfl (takes_of rfl rfl rfl rfl) (pmk_oex T.x_InvalidNumber T.i_InvalidNumber T.t_InvalidNumber G_InvalidNumber r_InvalidNumber b_InvalidNumber .nil pass0 rfl T.g_InvalidNumber (pa_cons (pv 1) pa_nil))))
 pss_nil)
 (pss_cons (ps_set (i := 2) sc_Ratio_over.nd rfl (Or.inl rfl) (pe_call G_rof r_rof rfl T.g_rof T.k_rof b_rof .nil passL (pa_cons (pv 1) pa_nil)))
 (pss_one (ps_ret (pe_make M_Ratio G_Ratio r_Ratio rfl T.g_Ratio b2_Ratio .nil passL (pa_cons (pe_op op_mulW (pe_fld (pv 0) rfl) (pe_fld (pv 2) rfl)) (pa_cons (pe_op op_mulW (pe_fld (pv 0) rfl) (pe_fld (pv 2) rfl)) pa_nil))))))), ?_⟩
    dsimp only [cxOf]
    have rz : ∀ H1, Same H H1 → (k.isN = false ∨ k.top = 0) → ∀ p, H1 p = none → ∀ (d' : Addr) (H' : Hp), upd H1 p (exo p CE none) d' = none → d' ≠ p → (∀ b, b ≠ p → b ≠ d' → H' b = upd H1 p (exo p CE none) b) → H1 d' = none ∧ E (.ref CE) (some d') (upd (del H' p) d' (invD y)) := fun H1 s1 c p np d' H' nd ne h3 => by
      rw [upd_ne ne] at nd
      rw [raise_eq np ne h3]
      exact ⟨nd, qE c H1 s1 d' nd⟩
    refine ⟨_, rfl, y, k, rfl, hk, _, rfl, ?_⟩
    cases hN : k.isN with
    | false =>
      refine ⟨_, rfl, (by show 1 ≤ 1000; decide), fun p np => ?_⟩
      exact ⟨p, y, rfl, upd_same, fun d' H' nd ne h1 h2 h3 => ⟨rfl, d', _, h1, h2, (rz H (Same.refl H) (.inl hN) p np d' H' nd ne h3).1, (rz H (Same.refl H) (.inl hN) p np d' H' nd ne h3).2⟩⟩
    | true =>
      have u := fun Q' (E' : XK) => rof_use (CE := CE) (Q := Q') (E := E') hk hN (b3.mono (by decide))
      refine ⟨_, rfl, ?_⟩
      dsimp only [tNil]
      refine u _ _ ?_
      intro p1 H1 s1 ⟨dp, hp⟩
      refine ⟨p1, C, dp, _, _, rfl, hp, T.cl, T.nT, ratF_top _ _, rfl, _, rfl, ?_⟩
      by_cases t0 : k.top = 0
      · refine itT (decide_eq_true (by rw [t0])) ?_
        refine ⟨_, rfl, (by show 1 ≤ 1000; decide), fun p np => ?_⟩
        exact ⟨p, y, rfl, upd_same, fun d' H' nd ne h1 h2 h3 => ⟨rfl, d', _, h1, h2, (rz H1 s1 (.inr t0) p np d' H' nd ne h3).1, (rz H1 s1 (.inr t0) p np d' H' nd ne h3).2⟩⟩
      · refine itF (decide_eq_false fun z => t0 (V.int.inj z)) ?_
        refine ⟨_, rfl, rof_use (hk.mono s1) hN (b3.mono (by decide)) fun p2 H2 s2 ⟨dq, hq⟩ => ?_⟩
        have ha2 := s2 _ _ (s1 _ _ ha)
        refine ⟨_, rfl, a, C, dx, _, _, rfl, ha2, T.cl, T.nT, ratF_top _ _, _, rfl, p2, C, dq, _, _, rfl, hq, T.cl, T.nB, ratF_bottom _ _, _, _, rfl, rfl, b1.cm b4 (by decide) (by decide) (by decide), ?_⟩
        refine ⟨_, rfl, a, C, dx, _, _, rfl, ha2, T.cl, T.nB, ratF_bottom _ _, _, rfl, p2, C, dq, _, _, rfl, hq, T.cl, T.nT, ratF_top _ _, _, _, rfl, rfl, b2.cm b3 (by decide) (by decide) (by decide), fun x dy nx nd _ => ?_⟩
        have s12 := s1.trans s2
        exact mk_rat (Int.mul_ne_zero (by have := lo.1; omega) t0) ((b1.mul b4).mono (by decide)) ((b2.mul b3).mono (by decide)) (fun z H' nz sz hz => q hN t0 z H' (s12.free nz) (s12.trans sz) hz) x dy nx nd
end
end Mine
namespace Mine
open PySem PySem.Spec PyProof.Rows L2
def spRatEq (K : PySem.W.Frag) (C : Addr) : Sp := fun vs H Q _ => ∃ (a : Addr) (n d : Int) (y : V) (k : Kr), vs = [.ref a, y] ∧ RatAt C H a n d ∧ KindR K C H y k ∧ Bt 8000 k.top ∧ ∀ H', Same H H' → Q (.bl (k.isN && (decide (n = k.top) && decide (d = k.bot)))) H'
section
variable {P : Program} {w : World} {K : PySem.W.Frag} {mg : Str → Option Value} {base : Heap} {C CE fE fW fN fO : Addr}
theorem ok_rateq {f : Addr} {fd fdN fdO : FuncData} (F : Fun K "__eq__" "Ratio.__eq__" s_Ratio_D_eqD_ f fd) (T : RatC K mg C CE fE fW fN fO) (G_number : FnOk P w K mg base CX0 2 fN fdN ["value"] (spNumber K C)) (b_number : Binds K fdN ["value"] [])
    (G_rof : FnOk P w K mg base (L2.CX P w) 5 fO fdO ["value"] (spRof K C CE)) (b_rof : Binds K fdO ["value"] []) : FnOk P w K mg base CX0 6 f fd ["self", "other"] (spRatEq K C) := by
  refine F.ok sc_Ratio_D_eqD_ (fun vs H Q E h => ?_) (fun cdv A outer s H vs Q E r_rof h => ?_)
  · obtain ⟨_, _, _, _, _, rfl, _⟩ := h
    rfl
  · obtain ⟨a, n, d, y, k, rfl, ⟨dx, ha⟩, hk, bk, q⟩ := h
    have r_number := r_rof.mono (show 2 ≤ 5 by decide)
    refine ⟨_, (pss_cons (ps_if (pt_not (pt_val (pe_call G_number r_number rfl T.g_number T.k_number b_number .nil pass0 (pa_cons (pv 1) pa_nil))))
 (pss_one (ps_ret pe_bl))
 pss_nil)
 (pss_cons (ps_set (i := 2) sc_Ratio_D_eqD_.nd rfl (Or.inl rfl) (pe_call G_rof r_rof rfl T.g_rof T.k_rof b_rof .nil passL (pa_cons (pv 1) pa_nil)))
 (pss_one (ps_ret (pe_and (pe_cmpR op_eq (pe_fld (pv 0) rfl) (pe_fld (pv 2) rfl) (nomark _)) (pe_one (pe_cmpR op_eq (pe_fld (pv 0) rfl) (pe_fld (pv 2) rfl) (nomark _)))))))), ?_⟩
    refine ⟨_, rfl, y, k, rfl, hk, _, rfl, ?_⟩
    cases hN : k.isN with
    | false =>
      have q0 := q H (Same.refl H)
      rw [hN] at q0
      exact q0
    | true =>
      rw [hN] at q
      refine ⟨_, rfl, rof_use hk hN bk fun p H1 s1 ⟨dp, hp⟩ => ?_⟩
      have ha1 := s1 _ _ ha
      have q1 := q H1 s1
      refine ⟨_, rfl, a, C, dx, _, _, rfl, ha1, T.cl, T.nT, ratF_top _ _, _, rfl, p, C, dp, _, _, rfl, hp, T.cl, T.nT, ratF_top _ _, rfl, _, rfl, ?_⟩
      by_cases c : n = k.top
      · refine itT (decide_eq_true (by rw [c])) ?_
        refine ⟨_, rfl, a, C, dx, _, _, rfl, ha1, T.cl, T.nB, ratF_bottom _ _, _, rfl, p, C, dp, _, _, rfl, hp, T.cl, T.nB, ratF_bottom _ _, rfl, ?_⟩
        rw [decide_eq_true c, Bool.true_and, Bool.true_and] at q1
        have e : decide (V.int d = V.int k.bot) = decide (d = k.bot) := by
          by_cases c2 : d = k.bot
          · rw [decide_eq_true c2, c2]
            exact decide_eq_true rfl
          · rw [decide_eq_false c2]
            exact decide_eq_false fun z => c2 (V.int.inj z)
        rw [e]
        exact q1
      · refine itF (decide_eq_false fun z => c (V.int.inj z)) ?_
        rw [decide_eq_false c] at q1
        exact q1
end
end Mine
namespace Mine
open PySem PySem.Spec PyProof.Rows L2
/-! ### lists of fractions and of pairs -/
inductive RatsAt (C : Addr) (H : Hp) : List V → List (Int × Int) → Prop where
  | nil : RatsAt C H [] []
  | cons {p : Addr} {v : Int × Int} {vs : List V} {l : List (Int × Int)} (h : RatAt C H p v.1 v.2) (t : RatsAt C H vs l) : RatsAt C H (.ref p :: vs) (v :: l)
theorem RatsAt.mono {C : Addr} {H H' : Hp} (e : Same H H') : ∀ {vs : List V} {l : List (Int × Int)}, RatsAt C H vs l → RatsAt C H' vs l
  | _, _, .nil => .nil
  | _, _, .cons h t => .cons (h.mono e) (t.mono e)
theorem RatsAt.append {C : Addr} {H : Hp} : ∀ {vs us : List V} {l m : List (Int × Int)}, RatsAt C H vs l → RatsAt C H us m → RatsAt C H (vs ++ us) (l ++ m)
  | _, _, _, _, .nil, g => g
  | _, _, _, _, .cons h t, g => .cons h (t.append g)
theorem RatsAt.get {C : Addr} {H : Hp} : ∀ {vs : List V} {l : List (Int × Int)} {i : Nat} {x : V}, RatsAt C H vs l → vs[i]? = some x → ∃ p v, x = .ref p ∧ l[i]? = some v ∧ RatAt C H p v.1 v.2
  | _, _, _, _, .nil, h => by simp at h
  | _, _, 0, _, .cons h _, e => by simp at e; subst e; exact ⟨_, _, rfl, rfl, h⟩
  | _, _, i + 1, x, .cons _ t, e => by
    obtain ⟨p, v, h1, h2, h3⟩ := t.get (i := i) (x := x) (by simpa using e)
    exact ⟨p, v, h1, by simpa using h2, h3⟩
theorem RatsAt.len {C : Addr} {H : Hp} : ∀ {vs : List V} {l : List (Int × Int)}, RatsAt C H vs l → vs.length = l.length
  | _, _, .nil => rfl
  | _, _, .cons _ t => congrArg (· + 1) t.len
def pairD (v : Int × Int) : PyData := .tuple [.int v.1, .int v.2]
theorem dp_pair {K : PySem.W.Frag} {H : Hp} {t : Addr} {n d : Int} (h : H t = some (.tup [.int n, .int d])) : Dp K H (.ref t) (pairD (n, d)) := .tup (SqT.of h) (.cons (.int _) (.cons (.int _) .nil))
inductive PairsAt (H : Hp) : List V → List (Int × Int) → Prop where
  | nil : PairsAt H [] []
  | cons {p : Addr} {v : Int × Int} {vs : List V} {l : List (Int × Int)} (h : H p = some (.tup [.int v.1, .int v.2])) (t : PairsAt H vs l) : PairsAt H (.ref p :: vs) (v :: l)
theorem PairsAt.mono {H H' : Hp} (e : Same H H') : ∀ {vs : List V} {l : List (Int × Int)}, PairsAt H vs l → PairsAt H' vs l
  | _, _, .nil => .nil
  | _, _, .cons h t => .cons (e _ _ h) (t.mono e)
theorem PairsAt.updL {H : Hp} {D : Addr} {xs : List V} {o : HO} (hD : H D = some (.lst xs)) : ∀ {vs : List V} {l : List (Int × Int)}, PairsAt H vs l → PairsAt (upd H D o) vs l
  | _, _, .nil => .nil
  | _, _, .cons h t => .cons (by rw [upd_ne (fun e => by rw [e, hD] at h; cases h)]; exact h) (t.updL hD)
theorem PairsAt.append {H : Hp} : ∀ {vs us : List V} {l m : List (Int × Int)}, PairsAt H vs l → PairsAt H us m → PairsAt H (vs ++ us) (l ++ m)
  | _, _, _, _, .nil, g => g
  | _, _, _, _, .cons h t, g => .cons h (t.append g)
theorem PairsAt.dp {K : PySem.W.Frag} {H : Hp} : ∀ {vs : List V} {l : List (Int × Int)}, PairsAt H vs l → DpAll K H vs (l.map pairD)
  | _, _, .nil => .nil
  | _, _, .cons h t => .cons (dp_pair h) t.dp
theorem PairsAt.len {H : Hp} : ∀ {vs : List V} {l : List (Int × Int)}, PairsAt H vs l → vs.length = l.length
  | _, _, .nil => rfl
  | _, _, .cons _ t => congrArg (· + 1) t.len
theorem take_snoc {α : Type} {l : List α} {m : Nat} {u : α} (h : l[m]? = some u) : l.take (m + 1) = l.take m ++ [u] := by rw [List.take_succ, h]; rfl
theorem canLay_pairs : ∀ l : List (Int × Int), PyData.canLayAll0 (l.map pairD) = true
  | [] => rfl
  | v :: l => by
    show (PyData.canLay0 (pairD v) && PyData.canLayAll0 (l.map pairD)) = true
    rw [canLay_pairs l]
    rfl
theorem depth_pair (v : Int × Int) : (pairD v).depth ≤ 5 := by
  show (PyData.tuple [.int v.1, .int v.2]).depth ≤ 5
  simp [PyData.depth, PyData.depthAll]
theorem depth_pairs : ∀ l : List (Int × Int), PyData.depthAll (l.map pairD) ≤ 6
  | [] => by simp [PyData.depthAll]
  | v :: l => by
    have h1 := depth_pair v
    have h2 := depth_pairs l
    show PyData.depthAll (pairD v :: l.map pairD) ≤ 6
    simp only [PyData.depthAll]
    omega
theorem sh_pairs (l : List (Int × Int)) : SeqAt.shaped (.list (l.map pairD)) = true := by
  unfold SeqAt.shaped
  rw [show (PyData.list (l.map pairD)).canLay0 = PyData.canLayAll0 (l.map pairD) from rfl, canLay_pairs, Bool.true_and]
  refine decide_eq_true ?_
  have := depth_pairs l
  simp only [PyData.depth]
  omega
theorem sh_pair (v : Int × Int) : SeqAt.shaped (pairD v) = true := by
  unfold SeqAt.shaped
  rw [show (pairD v).canLay0 = true from rfl, Bool.true_and]
  refine decide_eq_true ?_
  have := depth_pair v
  omega
theorem ne_self {d : PyData} (h : SeqAt.shaped d = true) : (!PyData.eqv d d) = false := by
  rw [PySem.SeqAt.eqv_refl d (SeqAt.canLay_of_shaped h)]
  rfl
/-! ### facts of the heap that a draw and a lambda leave -/
theorem tabS_pull {H : Hp} {P b : Addr} {q : Str} {o : HO} (t : LamX.TabS H P q) (hb : Bag H b) : LamX.TabS (upd H b o) P q := by
  obtain ⟨ys, hy⟩ := hb.lst
  obtain ⟨ps, h1, h2, h3⟩ := t
  refine ⟨ps, by rw [upd_ne (fun e => by rw [e, hy] at h1; cases h1)]; exact h1, h2, fun pos cv hc => ?_⟩
  obtain ⟨c, e1, e2⟩ := h3 pos cv hc
  refine ⟨c, e1, ?_⟩
  rw [upd_ne (fun e => by rw [e, hy] at e2; cases e2)]
  exact e2
theorem tup_pull {H : Hp} {t b : Addr} {xs : List V} {o : HO} (h : H t = some (.tup xs)) (hb : Bag H b) : upd H b o t = some (.tup xs) := by
  obtain ⟨ys, hy⟩ := hb.lst
  rw [upd_ne (fun e => by rw [e, hy] at h; cases h)]
  exact h
theorem rat_pull {C : Addr} {H : Hp} {p b : Addr} {n d : Int} {o : HO} (h : RatAt C H p n d) (hb : Bag H b) : RatAt C (upd H b o) p n d := by
  obtain ⟨ys, hy⟩ := hb.lst
  obtain ⟨dx, h⟩ := h
  refine ⟨dx, ?_⟩
  rw [upd_ne (fun e => by rw [e, hy] at h; cases h)]
  exact h
theorem Bag.extN {H H' : Hp} {b : Addr} (h : Bag H b) (e : LamX.ExtN H H') : Bag H' b := by
  obtain ⟨l, i, r, m, n, hb, hV, ne⟩ := h
  obtain ⟨ns, hl⟩ := hV.ls
  exact ⟨l, i, r, m, n, e _ _ hb (fun _ z => nomatch z), ⟨⟨ns, e _ _ hl (fun _ z => nomatch z)⟩, hV.i0, hV.r0, hV.m0, hV.m1⟩, ne⟩
theorem RatAt.extN {C : Addr} {H H' : Hp} {p : Addr} {n d : Int} (h : RatAt C H p n d) (e : LamX.ExtN H H') : RatAt C H' p n d := let ⟨dx, z⟩ := h; ⟨dx, e _ _ z (fun _ z => nomatch z)⟩
theorem KindR.extN {K : PySem.W.Frag} {C : Addr} {H H' : Hp} {v : V} {k : Kr} (h : KindR K C H v k) (e : LamX.ExtN H H') : KindR K C H' v k := by
  cases h with
  | int z => exact .int z
  | rat h => exact .rat (h.extN e)
  | dat h w => exact .dat (dp_ext e _ _ h) w
end Mine
namespace Mine
open PySem PySem.Spec PyProof.Rows L2
structure TxtK (K : PySem.W.Frag) (mg : Str → Option Value) (C CE fE fW fN fO fA gA fS gS fM gM fG fB fBa fP fOf fLo fSm fLr fPl fCr fPa fWhy fEq fOv CS CM fF : Addr) (ocW : Value) (odW anW : Option Addr) (kVW dcW pmW cdW ctW : Value) (slW : Array (Option Value)) : Prop extends RatO K mg C CE fE fW fN fO fA gA fS gS fM gM fG fB where
  tw : TxtW K mg CS CM fF
  range : mg "range" = none
  g_bag : mg "_law_bag" = some (.ref fBa)
  k_bag : PySem.W.keepIn K (.ref fBa) = true
  g_pull : mg "_law_pull" = some (.ref fP)
  k_pull : PySem.W.keepIn K (.ref fP) = true
  g_of : mg "_law_of" = some (.ref fOf)
  k_of : PySem.W.keepIn K (.ref fOf) = true
  g_low : mg "_law_low" = some (.ref fLo)
  k_low : PySem.W.keepIn K (.ref fLo) = true
  g_small : mg "_law_small" = some (.ref fSm)
  k_small : PySem.W.keepIn K (.ref fSm) = true
  g_lratio : mg "_law_ratio" = some (.ref fLr)
  k_lratio : PySem.W.keepIn K (.ref fLr) = true
  g_plus : mg "_law_plus" = some (.ref fPl)
  k_plus : PySem.W.keepIn K (.ref fPl) = true
  g_cross : mg "_law_cross" = some (.ref fCr)
  k_cross : PySem.W.keepIn K (.ref fCr) = true
  g_pair : mg "_law_pair" = some (.ref fPa)
  k_pair : PySem.W.keepIn K (.ref fPa) = true
  g_why : mg "_law_why" = some (.ref fWhy)
  k_why : PySem.W.keepIn K (.ref fWhy) = true
  l_why : K.lookup fWhy = some ⟨ocW, odW, .func (PySem.W.fnOf "_law_why" "_law_why" (defArgs s_L_why) (defBody s_L_why) (defScope s_L_why) .none kVW dcW pmW anW cdW ctW), slW⟩
  c_why : PySem.W.codeIn K cdW "_law_why" = true
  s_eq : Spec K C "__eq__" fEq
  ne : PySem.W.findIn K (.ref C) "__ne__" = some (some (.builtin "object.__ne__"))
  mro : PySem.W.mroIn K C (.type "object") = some true
  m_over : Meth K C "over" fOv
  er : ErrC K mg "InvalidNumber" "given" CE fE
  em : PySem.W.exmAny K (.ref CE) [.ref CS, .ref CM] = some true
structure TurnI (C Pt b t1 t2 p1 p2 : Addr) (n1 d1 n2 d2 : Int) (H : Hp) : Prop where
  bag : Bag H b
  tab : LamX.TabS H Pt "law.<locals>.<lambda>"
  o1 : H t1 = some (.tup [.int n1, .int d1])
  o2 : H t2 = some (.tup [.int n2, .int d2])
  r1 : RatAt C H p1 n1 d1
  r2 : RatAt C H p2 n2 d2
theorem TurnI.mono {C Pt b t1 t2 p1 p2 : Addr} {n1 d1 n2 d2 : Int} {H H' : Hp} (h : TurnI C Pt b t1 t2 p1 p2 n1 d1 n2 d2 H) (e : Same H H') : TurnI C Pt b t1 t2 p1 p2 n1 d1 n2 d2 H' := ⟨h.bag.same e, h.tab.ext e, e _ _ h.o1, e _ _ h.o2, h.r1.mono e, h.r2.mono e⟩
def lw (v : Int × Int) : Int × Int := low v.1 v.2
def dueA (n1 d1 n2 d2 z : Int) : List (Int × Int) := [lw (fAdd n1 d1 n2 d2), lw (fSub n1 d1 n2 d2), lw (fMul n1 d1 n2 d2), (-n1, d1), ((if n1 < 0 then -n1 else n1), d1), lw (fAdd n1 d1 z 1), lw (fAdd n1 d1 z 1), lw (fSub n1 d1 z 1)]
def dueB (n1 d1 z : Int) : List (Int × Int) := [lw (fRsub n1 d1 z 1), lw (fMul n1 d1 z 1), lw (fMul n1 d1 z 1)]
section
variable {P : Program} {w : World} {K : PySem.W.Frag} {mg : Str → Option Value} {base : Heap}
def spLaw (K : PySem.W.Frag) (Pt : Addr) : Sp := fun vs H Q _ => ∃ (a : Addr) (ns : List Int), vs = [.ref a] ∧ SqL K H a (ns.map V.int) ∧ H Pt = some (.tbl #[]) ∧ ∀ H', Q (.bl true) H'
theorem ok_law {f C CE fE fW fN fO fA gA fS gS fM gM fG fB fBa fP fOf fLo fSm fLr fPl fCr fPa fWhy fEq fOv CS CM fF fR cL Pt : Addr} {ocW kVW dcW pmW cdW ctW : Value} {odW anW : Option Addr} {slW : Array (Option Value)} {fdBa fdP fdOf fdLo fdSm fdLr fdPl fdCr fdPa fdEq fdOv fdF fdR fdA fdS fdM fdG fdB fdrA fdrS fdrM : FuncData} {g1 : List Value → List Value → List Value} {ds1 : List Value}
    {oc kV doc pm ct : Value} {od an : Option Addr} {osl : Array (Option Value)} (lk : K.lookup f = some ⟨oc, od, .func (PySem.W.fnOf "law" "law" (defArgs s_law) (defBody s_law) (defScope s_law) .none kV doc pm an (.ref cL) ct), osl⟩) (hcd : PySem.W.codeIn K (.ref cL) "law" = true) (TB : LamX.TabB base mg cL Pt)
    (T : TxtK K mg C CE fE fW fN fO fA gA fS gS fM gM fG fB fBa fP fOf fLo fSm fLr fPl fCr fPa fWhy fEq fOv CS CM fF ocW odW anW kVW dcW pmW cdW ctW slW)
    (G_bag : FnOk P w K mg base CX0 1 fBa fdBa ["_law_script"] (spBag K)) (b_bag : Binds K fdBa ["_law_script"] [])
    (G_pull : FnOk P w K mg base CX0 1 fP fdP ["_law_bag_here", "_law_many"] spPull) (b_pull : Binds K fdP ["_law_bag_here", "_law_many"] [])
    (G_of : FnOk P w K mg base CX0 2 fOf fdOf ["_law_bag_here", "_law_things"] (spOf K)) (b_of : Binds K fdOf ["_law_bag_here", "_law_things"] [])
    (G_low : FnOk P w K mg base CX0 1 fLo fdLo ["_law_top", "_law_bottom"] spLow) (b_low : Binds K fdLo ["_law_top", "_law_bottom"] [])
    (G_small : FnOk P w K mg base CX0 2 fSm fdSm ["_law_bag_here"] spSmall) (b_small : Binds K fdSm ["_law_bag_here"] [])
    (G_lratio : FnOk P w K mg base CX0 5 fLr fdLr ["_law_pair_here"] (spLRatio K C)) (b_lratio : Binds K fdLr ["_law_pair_here"] [])
    (G_plus : FnOk P w K mg base CX0 2 fPl fdPl ["_law_one", "_law_other"] (spOn2 K fAdd)) (b_plus : Binds K fdPl ["_law_one", "_law_other"] [])
    (G_cross : FnOk P w K mg base CX0 2 fCr fdCr ["_law_one", "_law_other"] (spOn2 K fMul)) (b_cross : Binds K fdCr ["_law_one", "_law_other"] [])
    (G_pair : FnOk P w K mg base CX0 1 fPa fdPa ["_law_found"] (spPair C)) (b_pair : Binds K fdPa ["_law_found"] [])
    (G_eq : FnOk P w K mg base CX0 6 fEq fdEq ["self", "other"] (spRatEq K C)) (b_eq : Binds K fdEq ["self", "other"] [])
    (G_over : FnOk P w K mg base (L2.CX P w) 6 fOv fdOv ["self", "other"] (spOver K C CE)) (b_over : Binds K fdOv ["self", "other"] []) (kb_over : KBn K fdOv ["self", "other"] 1 ["other"] g1 (fun vs zs => vs ++ zs))
    (G_add : FnOk P w K mg base CX0 6 fA fdA ["self", "other"] (spBin K C fAdd)) (b_add : Binds K fdA ["self", "other"] []) (G_radd : FnOk P w K mg base CX0 7 gA fdrA ["self", "other"] (spBinI C fAdd)) (b_radd : Binds K fdrA ["self", "other"] [])
    (G_sub : FnOk P w K mg base CX0 7 fS fdS ["self", "other"] (spBin K C fSub)) (b_sub : Binds K fdS ["self", "other"] []) (G_rsub : FnOk P w K mg base CX0 7 gS fdrS ["self", "other"] (spBin K C fRsub)) (b_rsub : Binds K fdrS ["self", "other"] [])
    (G_mul : FnOk P w K mg base CX0 6 fM fdM ["self", "other"] (spBin K C fMul)) (b_mul : Binds K fdM ["self", "other"] []) (G_rmul : FnOk P w K mg base CX0 7 gM fdrM ["self", "other"] (spBinI C fMul)) (b_rmul : Binds K fdrM ["self", "other"] [])
    (G_neg : FnOk P w K mg base CX0 5 fG fdG ["self"] (spUn C fun n => -n)) (b_neg : Binds K fdG ["self"] []) (G_abs : FnOk P w K mg base CX0 5 fB fdB ["self"] (spUn C fun n => if n < 0 then -n else n)) (b_abs : Binds K fdB ["self"] [])
    (G_field : FnE P w K mg base 2 fF fdF ["_law_e"] (spField K)) (b_field : Binds K fdF ["_law_e"] [])
    (M_Ratio : Mk K C fR) (G_Ratio : FnOk P w K mg base (L2.CX P w) 3 fR fdR ["self", "top", "bottom"] (spRat K C CE)) (b1_Ratio : Vals [.int 1] ds1 ∧ Binds K fdR ["self", "top", "bottom"] ds1)
    (b_why : Binds K (PySem.W.fnOf "_law_why" "_law_why" (defArgs s_L_why) (defBody s_L_why) (defScope s_L_why) .none kVW dcW pmW anW cdW ctW) ["_law_ask"] []) :
    FnOk P w K mg base CX0 9 f (PySem.W.fnOf "law" "law" (defArgs s_law) (defBody s_law) (defScope s_law) .none kV doc pm an (.ref cL) ct) ["_law_script"] (spLaw K Pt) := by
  refine fn_of lk hcd sc_law (fun vs H Q E h => ?_) (fun A outer s H vs Q E hr h => ?_)
  · obtain ⟨_, _, rfl, _⟩ := h
    rfl
  · obtain ⟨a, ns, rfl, hS, hT, k⟩ := h
    have r1 : Room 1 _ := hr.mono (by decide)
    have r2 : Room 2 _ := hr.mono (by decide)
    have r5 : Room 5 _ := hr.mono (by decide)
    have r6 : Room 6 _ := hr.mono (by decide)
    have r7 : Room 7 _ := hr.mono (by decide)
    have r_bag := r1
    have r_pull := r1
    have r_of := r2
    have r_low := r1
    have r_small := r2
    have r_lratio := r5
    have r_plus := r2
    have r_cross := r2
    have r_pair := r1
    have r_eq := r6
    have r_ne := r7
    have r_over := r6
    have r_add := r6
    have r_radd := r7
    have r_sub := r7
    have r_rsub := r7
    have r_mul := r6
    have r_rmul := r7
    have r_neg := r5
    have r_abs := r6
    have r_Ratio : Room 4 _ := hr.mono (by decide)
    have r_why : Room 3 _ := hr.mono (by decide)
    have r_lam : Room 8 _ := hr
    refine ⟨_, PSs.nox (pss_cons (ps_set (i := 1) sc_law.nd rfl (Or.inl rfl) (pe_call G_bag r_bag rfl T.g_bag T.k_bag b_bag .nil pass0 (pa_cons (pv 0) pa_nil)))
 (Evl.pss_cut (ps_for PassesOwn.never rfl (pi_range1 rfl T.range (pa_cons pe_int pa_nil)) (pg_name (i := 2) sc_law.nd rfl (Or.inl rfl))
 (Evl.pss_cut (ps_set (i := 3) sc_law.nd rfl (Or.inl rfl) (pe_call G_low r_low rfl T.g_low T.k_low b_low .nil pass0 (pa_cons (pe_call G_small r_small rfl T.g_small T.k_small b_small .nil pass0 (pa_cons (pv 1) pa_nil)) (pa_cons (pe_op op_add pe_int (pe_call G_pull r_pull rfl T.g_pull T.k_pull b_pull .nil pass0 (pa_cons (pv 1) (pa_cons pe_int pa_nil)))) pa_nil))))
 (Evl.pss_cut (ps_set (i := 4) sc_law.nd rfl (Or.inl rfl) (pe_call G_low r_low rfl T.g_low T.k_low b_low .nil pass0 (pa_cons (pe_call G_small r_small rfl T.g_small T.k_small b_small .nil pass0 (pa_cons (pv 1) pa_nil)) (pa_cons (pe_op op_add pe_int (pe_call G_pull r_pull rfl T.g_pull T.k_pull b_pull .nil pass0 (pa_cons (pv 1) (pa_cons pe_int pa_nil)))) pa_nil))))
 (Evl.pss_cut (ps_asg (pe_tup (pa_cons (pe_call G_lratio r_lratio rfl T.g_lratio T.k_lratio b_lratio .nil pass0 (pa_cons (pv 3) pa_nil)) (pa_cons (pe_call G_lratio r_lratio rfl T.g_lratio T.k_lratio b_lratio .nil pass0 (pa_cons (pv 4) pa_nil)) (pa_cons (pe_call G_small r_small rfl T.g_small T.k_small b_small .nil pass0 (pa_cons (pv 1) pa_nil)) pa_nil)))) (pg_tup (by rfl) (pgs_cons (pg_name (i := 12) sc_law.nd rfl (Or.inr rfl)) (pgs_cons (pg_name (i := 5) sc_law.nd rfl (Or.inl rfl)) (pgs_cons (pg_name (i := 6) sc_law.nd rfl (Or.inl rfl)) pgs_nil)))))
 (Evl.pss_cut (ps_set (i := 7) sc_law.nd rfl (Or.inl rfl) (pe_lst (pa_cons (pe_op (op_binO G_add T.o_add r_add b_add) (pv 12) (pv 5)) (pa_cons (pe_op (op_binO G_sub T.o_sub r_sub b_sub) (pv 12) (pv 5)) (pa_cons (pe_op (op_binO G_mul T.o_mul r_mul b_mul) (pv 12) (pv 5)) (pa_cons (pe_un (un_negO G_neg T.s_neg r_neg b_neg) (pv 12)) (pa_cons (pe_callB (id := "abs") (call_absO G_abs T.s_abs r_abs b_abs) (by rfl) T.abs (by decide +kernel) (pa_cons (pv 12) pa_nil)) (pa_cons (pe_op (op_binI G_add T.o_add T.i_add T.ir_add r_add b_add) (pv 12) (pv 6)) (pa_cons (pe_op (op_binR intOp_add G_radd T.o_add r_radd b_radd) (pv 6) (pv 12)) (pa_cons (pe_op (op_binI G_sub T.o_sub T.i_sub T.ir_sub r_sub b_sub) (pv 12) (pv 6)) pa_nil))))))))))
 (Evl.pss_cut (ps_set (i := 7) sc_law.nd rfl (Or.inl rfl) (pe_op op_cat (pv 7) (pe_lst (pa_cons (pe_op (op_binR intOp_sub G_rsub T.o_sub r_rsub b_rsub) (pv 6) (pv 12)) (pa_cons (pe_op (op_binI G_mul T.o_mul T.i_mul T.ir_mul r_mul b_mul) (pv 12) (pv 6)) (pa_cons (pe_op (op_binR intOp_mul G_rmul T.o_mul r_rmul b_rmul) (pv 6) (pv 12)) pa_nil))))))
 (Evl.pss_cut (ps_par (i := 8) (j := 9) (by rfl) sc_law.nd rfl rfl (by decide) rfl rfl (pa_cons (pe_tup (pa_cons (pe_un un_neg (pe_ix ix_tup (pv 4) pe_int (fun _ _ => rfl))) (pa_cons (pe_ix ix_tup (pv 4) pe_int (fun _ _ => rfl)) pa_nil))) (pa_cons (pe_tup (pa_cons (pv 6) (pa_cons pe_int pa_nil))) pa_nil)) (by rfl))
 (Evl.pss_cut (ps_set (i := 10) sc_law.nd rfl (Or.inl rfl) (pe_tup (pa_cons (pe_un un_neg (pe_ix ix_tup (pv 3) pe_int (fun _ _ => rfl))) (pa_cons (pe_ix ix_tup (pv 3) pe_int (fun _ _ => rfl)) pa_nil))))
 (Evl.pss_cut (ps_set (i := 11) sc_law.nd rfl (Or.inl rfl) (pe_lst (pa_cons (pe_call G_plus r_plus rfl T.g_plus T.k_plus b_plus .nil pass0 (pa_cons (pv 3) (pa_cons (pv 4) pa_nil))) (pa_cons (pe_call G_plus r_plus rfl T.g_plus T.k_plus b_plus .nil pass0 (pa_cons (pv 3) (pa_cons (pv 8) pa_nil))) (pa_cons (pe_call G_cross r_cross rfl T.g_cross T.k_cross b_cross .nil pass0 (pa_cons (pv 3) (pa_cons (pv 4) pa_nil))) (pa_cons (pv 10) (pa_cons (pe_tup (pa_cons (pe_callB call_abs (by rfl) T.abs (by decide +kernel) (pa_cons (pe_ix ix_tup (pv 3) pe_int (fun _ _ => rfl)) pa_nil)) (pa_cons (pe_ix ix_tup (pv 3) pe_int (fun _ _ => rfl)) pa_nil))) (pa_cons (pe_call G_plus r_plus rfl T.g_plus T.k_plus b_plus .nil pass0 (pa_cons (pv 3) (pa_cons (pv 9) pa_nil))) (pa_cons (pe_call G_plus r_plus rfl T.g_plus T.k_plus b_plus .nil pass0 (pa_cons (pv 3) (pa_cons (pv 9) pa_nil))) (pa_cons (pe_call G_plus r_plus rfl T.g_plus T.k_plus b_plus .nil pass0 (pa_cons (pv 3) (pa_cons (pe_tup (pa_cons (pe_un un_neg (pv 6)) (pa_cons pe_int pa_nil))) pa_nil))) (pa_cons (pe_call G_plus r_plus rfl T.g_plus T.k_plus b_plus .nil pass0 (pa_cons (pv 9) (pa_cons (pv 10) pa_nil))) (pa_cons (pe_call G_cross r_cross rfl T.g_cross T.k_cross b_cross .nil pass0 (pa_cons (pv 3) (pa_cons (pv 9) pa_nil))) (pa_cons (pe_call G_cross r_cross rfl T.g_cross T.k_cross b_cross .nil pass0 (pa_cons (pv 3) (pa_cons (pv 9) pa_nil))) pa_nil)))))))))))))
 (Evl.pss_cut (ps_if (pt_cmpR (op_neD (hu64 hr)) (pe_lc (own := [("_law_ratio_here", 14)]) (g := (gName 14)) (tt := tYes) (te := tCall (spPair C) [] E0 (tCons (tVar 14) tNil)) rfl sc_law.nd (pi_list (pv 7)) (blkOk_by (own := [("_law_ratio_here", 14)]) (N := ["_law_script", "_law_bag_here", "_law_turn", "_law_one", "_law_other", "_law_right", "_law_whole", "_law_found", "_law_minus", "_law_number", "_law_less", "_law_due", "_law_left", "_law_odd", "_law_ratio_here"]) (sc := defScope s_law) (by decide +kernel)) (fun _ _ _ _ _ => (pg_name (i := 14) sc_law.nd rfl (Or.inl rfl))) (fun _ _ _ _ _ => pts_nil) (fun _ _ _ _ _ => (pe_call G_pair r_pair rfl T.g_pair T.k_pair b_pair .nil pass0 (pa_cons (pv 14) pa_nil)))) (pv 11) (nomark _))
 (pss_one (ps_ret pe_bl))
 pss_nil)
 (Evl.pss_cut (ps_if (PW.pt (pw_and (pt_cmpR op_ne (pe_ix ix_tup (pv 4) pe_int (fun _ _ => rfl)) pe_int (nomark _)) (pw_and1 (pt_cmpR (op_neD (hu64 hr)) (pe_call G_pair r_pair rfl T.g_pair T.k_pair b_pair .nil pass0 (pa_cons (pe_meth (pv 12) T.cl T.m_over G_over r_over b_over .nil passL (pa_cons (pv 5) pa_nil)) pa_nil)) (pe_call G_low r_low rfl T.g_low T.k_low b_low .nil pass0 (pa_cons (pe_op op_mulW (pe_ix ix_tup (pv 3) pe_int (fun _ _ => rfl)) (pe_ix ix_tup (pv 4) pe_int (fun _ _ => rfl))) (pa_cons (pe_op op_mulW (pe_ix ix_tup (pv 3) pe_int (fun _ _ => rfl)) (pe_ix ix_tup (pv 4) pe_int (fun _ _ => rfl))) pa_nil))) (nomark _)))))
 (pss_one (ps_ret pe_bl))
 pss_nil)
 (Evl.pss_cut (ps_if (PW.pt (pw_and (pt_cmpR op_ne (pv 6) pe_int (nomark _)) (pw_and1 (pt_cmpR (op_neD (hu64 hr)) (pe_call G_pair r_pair rfl T.g_pair T.k_pair b_pair .nil pass0 (pa_cons (pe_methK0 (pv 12) T.cl T.m_over G_over r_over kb_over passL (pk_cons (pv 6) pk_nil)) pa_nil)) (pe_call G_low r_low rfl T.g_low T.k_low b_low .nil pass0 (pa_cons (pe_ix ix_tup (pv 3) pe_int (fun _ _ => rfl)) (pa_cons (pe_op op_mulW (pe_ix ix_tup (pv 3) pe_int (fun _ _ => rfl)) (pv 6)) pa_nil))) (nomark _)))))
 (pss_one (ps_ret pe_bl))
 pss_nil)
 (Evl.pss_cut (ps_if (PW.pt (pw_or (pt_cmpR (op_neD (hu64 hr)) (pe_call G_pair r_pair rfl T.g_pair T.k_pair b_pair .nil pass0 (pa_cons (pv 12) pa_nil)) (pv 3) (nomark _)) (pw_or1 (pt_cmpR (op_neD (hu64 hr)) (pe_call G_pair r_pair rfl T.g_pair T.k_pair b_pair .nil pass0 (pa_cons (pv 5) pa_nil)) (pv 4) (nomark _)))))
 (pss_one (ps_ret pe_bl))
 pss_nil)
 (Evl.pss_cut (ps_set (i := 13) sc_law.nd rfl (Or.inr rfl) (pe_call G_of r_of rfl T.g_of T.k_of b_of .nil pass0 (pa_cons (pv 1) (pa_cons (pe_lst (pa_cons pe_int (pa_cons pe_non (pa_cons pe_str (pa_cons pe_bl (pa_cons pe_bl (pa_cons (pe_make M_Ratio G_Ratio r_Ratio rfl T.g_Ratio b1_Ratio.2 b1_Ratio.1 passL (pa_cons pe_int pa_nil)) pa_nil))))))) pa_nil))))
 (Evl.pss_cut (ps_set (i := 7) sc_law.nd rfl (Or.inl rfl) (LamX.pe_lamcall (T := [(Pt, "law.<locals>.<lambda>")]) (k := 6) rfl T.g_why T.k_why T.l_why T.c_why b_why sc_L_why rfl (.inl rfl) (why_gives T.tw G_field b_field r_why) TB rfl (List.Mem.head _) (fun p hp _ => by cases hp with | head => rfl | tail _ h => cases h) r_lam (LamX.lamS_by (sc := defScope s_law) (by decide +kernel)) rfl (fun _ _ _ _ _ => rfl) (fun A outer s H E f c' hr => pe_meth (pv 12) T.cl T.m_over G_over hr b_over .nil (passes_call (takes_of rfl rfl rfl rfl) (fun _ _ _ _ h => h)) (pa_cons (pv 13) pa_nil))))
 (pss_one (ps_if (PW.pt (pw_or (pt_cmpR op_ne (pe_ix ix_tup (pv 7) pe_int (fun _ _ => rfl)) pe_str (nomark _)) (pw_or1 (pt_cmpR (op_any op_ne (op_neO G_eq T.s_eq T.ne T.mro r_ne b_eq)) (pe_ix ix_tup (pv 7) pe_int (fun _ _ => rfl)) (pv 13) (nomark _)))))
 (pss_one (ps_ret pe_bl))
 pss_nil)))))))))))))))))
 (pss_one (ps_ret pe_bl)))), ?_⟩
    -- the bag
    refine ⟨_, rfl, a, ns, rfl, hS, fun b H1 nb s1 hb => ?_⟩
    refine ⟨fun _ _ => True, ?_, fun σ' H' _ => k H'⟩
    refine ⟨3, rfl, by decide, by decide, ?_⟩
    refine for_range (lo := 0) (n := 3) (fun i σ' H' => ∃ c2 c3 c4 c5 c6 c7 c8 c9 c10 c11 c12 c13 c14 : Option V, σ' = [some (.ref a), some (.ref b), c2, c3, c4, c5, c6, c7, c8, c9, c10, c11, c12, c13, c14] ∧ Bag H' b ∧ LamX.TabS H' Pt "law.<locals>.<lambda>") ?_ ?_ (fun _ _ _ => trivial)
    · exact ⟨none, none, none, none, none, none, none, none, none, none, none, none, none, rfl, hb, LamX.TabS.nil (s1 _ _ hT)⟩
    rintro i σ' H2 hi ⟨c2, c3, c4, c5, c6, c7, c8, c9, c10, c11, c12, c13, c14, rfl, hb2, tb2⟩
    clear hb s1
    -- one
    refine ⟨fun σ' H' => ∃ (t1 : Addr) (n1 d1 : Int), σ' = [some (.ref a), some (.ref b), some (.int (0 + i)), some (.ref t1), c4, c5, c6, c7, c8, c9, c10, c11, c12, c13, c14] ∧ Bag H' b ∧ LamX.TabS H' Pt "law.<locals>.<lambda>" ∧ H' t1 = some (.tup [.int n1, .int d1]) ∧ Lo n1 d1 ∧ Bt 100 n1 ∧ Bt 100 d1, ?_, ?_⟩
    · refine ⟨_, rfl, b, rfl, hb2, fun z o bz hb3 => ?_⟩
      refine ⟨_, rfl, b, 50, rfl, hb3, by decide, by decide, fun e o2 e0 e1 hb4 => ⟨_, _, rfl, rfl, ?_⟩⟩
      have hd : (1 + e : Int) ≠ 0 := by omega
      have be : Bt 20 (1 + e) := by show (1 + e).natAbs < 2 ^ 20; omega
      refine ⟨_, _, rfl, hd, bz.mono (by decide), be.mono (by decide), fun p H' np s' hp => ?_⟩
      obtain ⟨l1, l2⟩ := bz.low be hd
      exact ⟨p, _, _, rfl, hb4.same s', (tabS_pull (tabS_pull tb2 hb2) hb3).ext s', hp, low_lo hd, l1.mono (by decide), l2.mono (by decide)⟩
    clear hb2 tb2 H2
    rintro σ' H2 ⟨t1, n1, d1, rfl, hb2, tb2, ht1, lo1, bn1, bd1⟩
    -- other
    refine ⟨fun σ' H' => ∃ (t2 : Addr) (n2 d2 : Int), σ' = [some (.ref a), some (.ref b), some (.int (0 + i)), some (.ref t1), some (.ref t2), c5, c6, c7, c8, c9, c10, c11, c12, c13, c14] ∧ Bag H' b ∧ LamX.TabS H' Pt "law.<locals>.<lambda>" ∧ H' t1 = some (.tup [.int n1, .int d1]) ∧ H' t2 = some (.tup [.int n2, .int d2]) ∧ Lo n2 d2 ∧ Bt 100 n2 ∧ Bt 100 d2, ?_, ?_⟩
    · refine ⟨_, rfl, b, rfl, hb2, fun z o bz hb3 => ?_⟩
      refine ⟨_, rfl, b, 50, rfl, hb3, by decide, by decide, fun e o2 e0 e1 hb4 => ⟨_, _, rfl, rfl, ?_⟩⟩
      have hd : (1 + e : Int) ≠ 0 := by omega
      have be : Bt 20 (1 + e) := by show (1 + e).natAbs < 2 ^ 20; omega
      refine ⟨_, _, rfl, hd, bz.mono (by decide), be.mono (by decide), fun p H' np s' hp => ?_⟩
      obtain ⟨l1, l2⟩ := bz.low be hd
      exact ⟨p, _, _, rfl, hb4.same s', (tabS_pull (tabS_pull tb2 hb2) hb3).ext s', s' _ _ (tup_pull (tup_pull ht1 hb2) hb3), hp, low_lo hd, l1.mono (by decide), l2.mono (by decide)⟩
    clear hb2 tb2 ht1 H2
    rintro σ' H2 ⟨t2, n2, d2, rfl, hb2, tb2, ht1, ht2, lo2, bn2, bd2⟩
    have d10 : d1 ≠ 0 := by have := lo1.1; omega
    have d20 : d2 ≠ 0 := by have := lo2.1; omega
    -- left, right, whole
    refine ⟨fun σ' H' => ∃ (p1 p2 : Addr) (z : Int), σ' = [some (.ref a), some (.ref b), some (.int (0 + i)), some (.ref t1), some (.ref t2), some (.ref p2), some (.int z), c7, c8, c9, c10, c11, some (.ref p1), c13, c14] ∧ Bag H' b ∧ LamX.TabS H' Pt "law.<locals>.<lambda>" ∧ H' t1 = some (.tup [.int n1, .int d1]) ∧ H' t2 = some (.tup [.int n2, .int d2]) ∧ RatAt C H' p1 n1 d1 ∧ RatAt C H' p2 n2 d2 ∧ Bt 100 z, ?_, ?_⟩
    · refine ⟨_, rfl, t1, n1, d1, rfl, SqT.of ht1, d10, bn1.mono (by decide), bd1.mono (by decide), fun p1 H3 np1 s3 hp1 => ?_⟩
      refine ⟨_, rfl, t2, n2, d2, rfl, SqT.of (s3 _ _ ht2), d20, bn2.mono (by decide), bd2.mono (by decide), fun p2 H4 np2 s4 hp2 => ?_⟩
      rw [low_of lo1] at hp1
      rw [low_of lo2] at hp2
      have s34 := s3.trans s4
      have hb4 := hb2.same s34
      refine ⟨_, rfl, b, rfl, hb4, fun z o bz hb5 => ⟨(by show 3 ≤ sizeLine; decide), fun t nt => ?_⟩⟩
      have TI : LamX.TabS _ Pt "law.<locals>.<lambda>" := tabS_pull (o := o) (tb2.ext s34) hb4
      have vt := Same.new (o := .tup [.ref p1, .ref p2, .int z]) nt
      refine ⟨t, _, rfl, SqT.of upd_same, rfl, _, _, rfl, _, _, rfl, _, _, rfl, rfl, p1, p2, z, rfl, hb5.same vt, TI.ext vt, vt _ _ (tup_pull (s34 _ _ ht1) hb4), vt _ _ (tup_pull (s34 _ _ ht2) hb4), (rat_pull (hp1.mono s4) hb4).mono vt, (rat_pull hp2 hb4).mono vt, bz.mono (by decide)⟩
    clear hb2 tb2 ht1 ht2 H2
    rintro σ' H2 ⟨p1, p2, z, rfl, hb2, tb2, ht1, ht2, hp1, hp2, bz⟩
    have b1 : Bt 1000 n1 := bn1.mono (by decide)
    have b2 : Bt 1000 d1 := bd1.mono (by decide)
    have b3 : Bt 1000 n2 := bn2.mono (by decide)
    have b4 : Bt 1000 d2 := bd2.mono (by decide)
    have b5 : Bt 1000 z := bz.mono (by decide)
    have b6 : Bt 1000 1 := Bt.one (by decide)
    have TI : TurnI C Pt b t1 t2 p1 p2 n1 d1 n2 d2 H2 := ⟨hb2, tb2, ht1, ht2, hp1, hp2⟩
    clear hb2 tb2 ht1 ht2 hp1 hp2
    -- found
    refine ⟨fun σ' H' => ∃ (fl : Addr) (vs : List V), σ' = [some (.ref a), some (.ref b), some (.int (0 + i)), some (.ref t1), some (.ref t2), some (.ref p2), some (.int z), some (.ref fl), c8, c9, c10, c11, some (.ref p1), c13, c14] ∧ TurnI C Pt b t1 t2 p1 p2 n1 d1 n2 d2 H' ∧ H' fl = some (.lst vs) ∧ RatsAt C H' vs (dueA n1 d1 n2 d2 z), ?_, ?_⟩
    · have u0 : Same H2 H2 := Same.refl H2
      obtain ⟨x1, g1⟩ := (TI.mono u0).r1
      obtain ⟨x2, g2⟩ := (TI.mono u0).r2
      refine ⟨_, rfl, _, rfl, p1, x1, _, p2, x2, _, rfl, rfl, g1, g2, p1, n1, d1, _, .r n2 d2, rfl, ⟨x1, g1⟩, .rat ⟨x2, g2⟩, rfl, lo1, lo2, b1, b2, b3, b4, fun q1 J1 m1 v1 e1 => ?_⟩
      clear g1 g2 x1 x2
      have u1 := u0.trans v1
      obtain ⟨x1, g1⟩ := (TI.mono u1).r1
      obtain ⟨x2, g2⟩ := (TI.mono u1).r2
      refine ⟨_, rfl, _, rfl, p1, x1, _, p2, x2, _, rfl, rfl, g1, g2, p1, n1, d1, _, .r n2 d2, rfl, ⟨x1, g1⟩, .rat ⟨x2, g2⟩, rfl, lo1, lo2, b1, b2, b3, b4, fun q2 J2 m2 v2 e2 => ?_⟩
      clear g1 g2 x1 x2
      have u2 := u1.trans v2
      obtain ⟨x1, g1⟩ := (TI.mono u2).r1
      obtain ⟨x2, g2⟩ := (TI.mono u2).r2
      refine ⟨_, rfl, _, rfl, p1, x1, _, p2, x2, _, rfl, rfl, g1, g2, p1, n1, d1, _, .r n2 d2, rfl, ⟨x1, g1⟩, .rat ⟨x2, g2⟩, rfl, lo1, lo2, b1, b2, b3, b4, fun q3 J3 m3 v3 e3 => ?_⟩
      clear g1 g2 x1 x2
      have u3 := u2.trans v3
      obtain ⟨x1, g1⟩ := (TI.mono u3).r1
      obtain ⟨x2, g2⟩ := (TI.mono u3).r2
      refine ⟨_, rfl, p1, x1, _, rfl, g1, p1, n1, d1, rfl, ⟨x1, g1⟩, lo1, b1.mono (by decide), b2.mono (by decide), fun q4 J4 m4 v4 e4 => ?_⟩
      clear g1 g2 x1 x2
      have u4 := u3.trans v4
      obtain ⟨x1, g1⟩ := (TI.mono u4).r1
      obtain ⟨x2, g2⟩ := (TI.mono u4).r2
      refine ⟨_, rfl, _, rfl, p1, x1, _, rfl, g1, p1, n1, d1, rfl, ⟨x1, g1⟩, lo1, b1.mono (by decide), b2.mono (by decide), fun q5 J5 m5 v5 e5 => ?_⟩
      clear g1 g2 x1 x2
      have u5 := u4.trans v5
      obtain ⟨x1, g1⟩ := (TI.mono u5).r1
      obtain ⟨x2, g2⟩ := (TI.mono u5).r2
      refine ⟨_, rfl, _, rfl, p1, x1, _, z, rfl, rfl, g1, p1, n1, d1, _, .i z, rfl, ⟨x1, g1⟩, .int z, rfl, lo1, lo_one z, b1, b2, b5, b6, fun q6 J6 m6 v6 e6 => ?_⟩
      clear g1 g2 x1 x2
      have u6 := u5.trans v6
      obtain ⟨x1, g1⟩ := (TI.mono u6).r1
      obtain ⟨x2, g2⟩ := (TI.mono u6).r2
      refine ⟨_, rfl, _, rfl, p1, x1, _, z, rfl, rfl, g1, p1, n1, d1, z, rfl, ⟨x1, g1⟩, lo1, b1, b2, b5, fun q7 J7 m7 v7 e7 => ?_⟩
      clear g1 g2 x1 x2
      have u7 := u6.trans v7
      obtain ⟨x1, g1⟩ := (TI.mono u7).r1
      obtain ⟨x2, g2⟩ := (TI.mono u7).r2
      refine ⟨_, rfl, _, rfl, p1, x1, _, z, rfl, rfl, g1, p1, n1, d1, _, .i z, rfl, ⟨x1, g1⟩, .int z, rfl, lo1, lo_one z, b1, b2, b5, b6, fun q8 J8 m8 v8 e8 => ?_⟩
      clear g1 g2 x1 x2
      have u8 := u7.trans v8
      refine ⟨(by show 8 ≤ sizeLine; decide), fun fl nf => ?_⟩
      have vf := Same.new (o := .lst [.ref q1, .ref q2, .ref q3, .ref q4, .ref q5, .ref q6, .ref q7, .ref q8]) nf
      exact ⟨fl, _, rfl, TI.mono (u8.trans vf), upd_same, (.cons (v := _) (RatAt.mono (RatAt.mono (RatAt.mono (RatAt.mono (RatAt.mono (RatAt.mono (RatAt.mono (RatAt.mono e1 v2) v3) v4) v5) v6) v7) v8) vf) (.cons (v := _) (RatAt.mono (RatAt.mono (RatAt.mono (RatAt.mono (RatAt.mono (RatAt.mono (RatAt.mono e2 v3) v4) v5) v6) v7) v8) vf) (.cons (v := _) (RatAt.mono (RatAt.mono (RatAt.mono (RatAt.mono (RatAt.mono (RatAt.mono e3 v4) v5) v6) v7) v8) vf) (.cons (v := _) (RatAt.mono (RatAt.mono (RatAt.mono (RatAt.mono (RatAt.mono e4 v5) v6) v7) v8) vf) (.cons (v := _) (RatAt.mono (RatAt.mono (RatAt.mono (RatAt.mono e5 v6) v7) v8) vf) (.cons (v := _) (RatAt.mono (RatAt.mono (RatAt.mono e6 v7) v8) vf) (.cons (v := _) (RatAt.mono (RatAt.mono e7 v8) vf) (.cons (v := _) (RatAt.mono e8 vf) .nil))))))))⟩
    clear TI H2
    rintro σ' H2 ⟨fl, vs, rfl, TI, hfl, hra⟩
    refine ⟨fun σ' H' => ∃ (fl : Addr) (vs : List V), σ' = [some (.ref a), some (.ref b), some (.int (0 + i)), some (.ref t1), some (.ref t2), some (.ref p2), some (.int z), some (.ref fl), c8, c9, c10, c11, some (.ref p1), c13, c14] ∧ TurnI C Pt b t1 t2 p1 p2 n1 d1 n2 d2 H' ∧ H' fl = some (.lst vs) ∧ RatsAt C H' vs (dueA n1 d1 n2 d2 z ++ dueB n1 d1 z), ?_, ?_⟩
    · have u0 : Same H2 H2 := Same.refl H2
      refine ⟨_, rfl, ?_⟩
      obtain ⟨x1, g1⟩ := (TI.mono u0).r1
      obtain ⟨x2, g2⟩ := (TI.mono u0).r2
      refine ⟨_, rfl, _, rfl, p1, x1, _, z, rfl, rfl, g1, p1, n1, d1, _, .i z, rfl, ⟨x1, g1⟩, .int z, rfl, lo1, lo_one z, b1, b2, b5, b6, fun q1 J1 m1 v1 e1 => ?_⟩
      clear g1 g2 x1 x2
      have u1 := u0.trans v1
      obtain ⟨x1, g1⟩ := (TI.mono u1).r1
      obtain ⟨x2, g2⟩ := (TI.mono u1).r2
      refine ⟨_, rfl, _, rfl, p1, x1, _, z, rfl, rfl, g1, p1, n1, d1, _, .i z, rfl, ⟨x1, g1⟩, .int z, rfl, lo1, lo_one z, b1, b2, b5, b6, fun q2 J2 m2 v2 e2 => ?_⟩
      clear g1 g2 x1 x2
      have u2 := u1.trans v2
      obtain ⟨x1, g1⟩ := (TI.mono u2).r1
      obtain ⟨x2, g2⟩ := (TI.mono u2).r2
      refine ⟨_, rfl, _, rfl, p1, x1, _, z, rfl, rfl, g1, p1, n1, d1, z, rfl, ⟨x1, g1⟩, lo1, b1, b2, b5, fun q3 J3 m3 v3 e3 => ?_⟩
      clear g1 g2 x1 x2
      have u3 := u2.trans v3
      refine ⟨(by show 3 ≤ sizeLine; decide), fun fm nm => ?_⟩
      have vf := Same.new (o := .lst [.ref q1, .ref q2, .ref q3]) nm
      have u4 := u3.trans vf
      refine ⟨fl, fm, _, _, rfl, rfl, u4 _ _ hfl, upd_same, ?_, fun fn nn => ?_⟩
      · rw [hra.len]
        exact szle (by show 8 + 3 ≤ 100000; decide)
      · have vg := Same.new (o := .lst (vs ++ [.ref q1, .ref q2, .ref q3])) nn
        have vh := vf.trans vg
        exact ⟨fn, _, rfl, TI.mono (u3.trans vh), upd_same, (hra.mono (u3.trans vh)).append (.cons (v := _) (RatAt.mono (RatAt.mono (RatAt.mono e1 v2) v3) vh) (.cons (v := _) (RatAt.mono (RatAt.mono e2 v3) vh) (.cons (v := _) (RatAt.mono e3 vh) .nil)))⟩
    clear TI H2 hfl hra vs fl
    rintro σ' H2 ⟨fl, vs, rfl, TI, hfl, hra⟩
    -- minus, number, less
    refine ⟨fun σ' H' => ∃ tm tn : Addr, σ' = [some (.ref a), some (.ref b), some (.int (0 + i)), some (.ref t1), some (.ref t2), some (.ref p2), some (.int z), some (.ref fl), some (.ref tm), some (.ref tn), c10, c11, some (.ref p1), c13, c14] ∧ Same H2 H' ∧ H' tm = some (.tup [.int (-n2), .int d2]) ∧ H' tn = some (.tup [.int z, .int 1]), ?_, ?_⟩
    · refine ⟨_, rfl, t2, _, 0, _, rfl, rfl, SqT.of TI.o2, rfl, _, rfl, _, rfl, t2, _, 1, _, rfl, rfl, SqT.of TI.o2, rfl, sz2, fun tm ntm => ⟨_, rfl, sz2, fun tn ntn => ⟨_, _, rfl, tm, tn, rfl, (Same.new ntm).trans (Same.new ntn), (Same.new ntn) _ _ upd_same, upd_same⟩⟩⟩
    rintro σ' H3 ⟨tm, tn, rfl, w3, htm, htn⟩
    refine ⟨fun σ' H' => ∃ tl : Addr, σ' = [some (.ref a), some (.ref b), some (.int (0 + i)), some (.ref t1), some (.ref t2), some (.ref p2), some (.int z), some (.ref fl), some (.ref tm), some (.ref tn), some (.ref tl), c11, some (.ref p1), c13, c14] ∧ Same H3 H' ∧ H' tl = some (.tup [.int (-n1), .int d1]), ?_, ?_⟩
    · have TI3 := TI.mono w3
      exact ⟨_, rfl, t1, _, 0, _, rfl, rfl, SqT.of TI3.o1, rfl, _, rfl, _, rfl, t1, _, 1, _, rfl, rfl, SqT.of TI3.o1, rfl, sz2, fun tl ntl => ⟨tl, rfl, Same.new ntl, upd_same⟩⟩
    rintro σ' H4 ⟨tl, rfl, w4, htl⟩
    have w34 := w3.trans w4
    have htm4 := w4 _ _ htm
    have htn4 := w4 _ _ htn
    have TI4 := TI.mono w34
    have hfl4 := w34 _ _ hfl
    have hra4 := hra.mono w34
    clear TI htm htn hfl hra w3 w4 w34 H2 H3
    -- due
    refine ⟨fun σ' H' => ∃ (du : Addr) (ws : List V), σ' = [some (.ref a), some (.ref b), some (.int (0 + i)), some (.ref t1), some (.ref t2), some (.ref p2), some (.int z), some (.ref fl), some (.ref tm), some (.ref tn), some (.ref tl), some (.ref du), some (.ref p1), c13, c14] ∧ Same H4 H' ∧ H' du = some (.lst ws) ∧ DpAll K H' ws ((dueA n1 d1 n2 d2 z ++ dueB n1 d1 z).map pairD), ?_, ?_⟩
    · have u0 : Same H4 H4 := Same.refl H4
      have n10 : (1 : Int) ≠ 0 := by decide
      refine ⟨_, rfl, _, rfl, t1, t2, n1, d1, n2, d2, rfl, SqT.of (u0 _ _ TI4.o1), SqT.of (u0 _ _ TI4.o2), d10, d20, b1, b2, b3, b4, fun q1 J1 m1 v1 e1 => ?_⟩
      have u1 := u0.trans v1
      refine ⟨_, rfl, _, rfl, t1, tm, n1, d1, (-n2), d2, rfl, SqT.of (u1 _ _ TI4.o1), SqT.of (u1 _ _ htm4), d10, d20, b1, b2, b3.neg, b4, fun q2 J2 m2 v2 e2 => ?_⟩
      have u2 := u1.trans v2
      refine ⟨_, rfl, _, rfl, t1, t2, n1, d1, n2, d2, rfl, SqT.of (u2 _ _ TI4.o1), SqT.of (u2 _ _ TI4.o2), d10, d20, b1, b2, b3, b4, fun q3 J3 m3 v3 e3 => ?_⟩
      have u3 := u2.trans v3
      refine ⟨_, rfl, ?_⟩
      refine ⟨_, rfl, t1, _, 0, _, rfl, rfl, SqT.of (u3 _ _ TI4.o1), rfl, _, rfl, _, rfl, t1, _, 1, _, rfl, rfl, SqT.of (u3 _ _ TI4.o1), rfl, sz2, fun q4 m4 => ?_⟩
      have v4 := Same.new (o := .tup [.int (if n1 < 0 then -n1 else n1), .int d1]) m4
      have e4 : upd J3 q4 (.tup [.int (if n1 < 0 then -n1 else n1), .int d1]) q4 = some (.tup [.int (if n1 < 0 then -n1 else n1), .int d1]) := upd_same
      have u4 := u3.trans v4
      refine ⟨_, rfl, _, rfl, t1, tn, n1, d1, z, 1, rfl, SqT.of (u4 _ _ TI4.o1), SqT.of (u4 _ _ htn4), d10, n10, b1, b2, b5, b6, fun q5 J5 m5 v5 e5 => ?_⟩
      have u5 := u4.trans v5
      refine ⟨_, rfl, _, rfl, t1, tn, n1, d1, z, 1, rfl, SqT.of (u5 _ _ TI4.o1), SqT.of (u5 _ _ htn4), d10, n10, b1, b2, b5, b6, fun q6 J6 m6 v6 e6 => ?_⟩
      have u6 := u5.trans v6
      refine ⟨_, rfl, _, rfl, _, rfl, sz2, fun tz mz => ?_⟩
      have vz := Same.new (o := .tup [.int (-z), .int 1]) mz
      have uz := u6.trans vz
      refine ⟨t1, tz, n1, d1, -z, 1, rfl, SqT.of (uz _ _ TI4.o1), SqT.of upd_same, d10, n10, b1, b2, b5.neg, b6, fun q7 J7 m7 v7' e7 => ?_⟩
      have v7 := vz.trans v7'
      have u7 := u6.trans v7
      refine ⟨_, rfl, _, rfl, tn, tl, z, 1, (-n1), d1, rfl, SqT.of (u7 _ _ htn4), SqT.of (u7 _ _ htl), n10, d10, b5, b6, b1.neg, b2, fun q8 J8 m8 v8 e8 => ?_⟩
      have u8 := u7.trans v8
      refine ⟨_, rfl, _, rfl, t1, tn, n1, d1, z, 1, rfl, SqT.of (u8 _ _ TI4.o1), SqT.of (u8 _ _ htn4), d10, n10, b1, b2, b5, b6, fun q9 J9 m9 v9 e9 => ?_⟩
      have u9 := u8.trans v9
      refine ⟨_, rfl, _, rfl, t1, tn, n1, d1, z, 1, rfl, SqT.of (u9 _ _ TI4.o1), SqT.of (u9 _ _ htn4), d10, n10, b1, b2, b5, b6, fun q10 J10 m10 v10 e10 => ?_⟩
      have u10 := u9.trans v10
      refine ⟨(by show 11 ≤ sizeLine; decide), fun du nd => ?_⟩
      have vf := Same.new (o := .lst [.ref q1, .ref q2, .ref q3, .ref tl, .ref q4, .ref q5, .ref q6, .ref q7, .ref q8, .ref q9, .ref q10]) nd
      exact ⟨du, _, rfl, u10.trans vf, upd_same, (.cons (dp_pair (vf _ _ (v10 _ _ (v9 _ _ (v8 _ _ (v7 _ _ (v6 _ _ (v5 _ _ (v4 _ _ (v3 _ _ (v2 _ _ e1))))))))))) (.cons (dp_pair (vf _ _ (v10 _ _ (v9 _ _ (v8 _ _ (v7 _ _ (v6 _ _ (v5 _ _ (v4 _ _ (v3 _ _ e2)))))))))) (.cons (dp_pair (vf _ _ (v10 _ _ (v9 _ _ (v8 _ _ (v7 _ _ (v6 _ _ (v5 _ _ (v4 _ _ e3))))))))) (.cons (dp_pair (vf _ _ (v10 _ _ (v9 _ _ (v8 _ _ (v7 _ _ (v6 _ _ (v5 _ _ (v4 _ _ (v3 _ _ (v2 _ _ (v1 _ _ htl)))))))))))) (.cons (dp_pair (vf _ _ (v10 _ _ (v9 _ _ (v8 _ _ (v7 _ _ (v6 _ _ (v5 _ _ e4)))))))) (.cons (dp_pair (vf _ _ (v10 _ _ (v9 _ _ (v8 _ _ (v7 _ _ (v6 _ _ e5))))))) (.cons (dp_pair (vf _ _ (v10 _ _ (v9 _ _ (v8 _ _ (v7 _ _ e6)))))) (.cons (dp_pair (vf _ _ (v10 _ _ (v9 _ _ (v8 _ _ e7))))) (.cons (dp_pair (vf _ _ (v10 _ _ (v9 _ _ e8)))) (.cons (dp_pair (vf _ _ (v10 _ _ e9))) (.cons (dp_pair (vf _ _ e10)) .nil)))))))))))⟩
    rintro σ' H5 ⟨du, ws, rfl, w5, hdu, hws⟩
    have TI5 := TI4.mono w5
    have hfl5 := w5 _ _ hfl4
    have hra5 := hra4.mono w5
    clear TI4 hfl4 hra4 htm4 htn4 htl w5 H4
    have nes : ∀ (x y : Addr) (v : Int × Int) (Hz : Hp), Hz x = some (.tup [.int v.1, .int v.2]) → Hz y = some (.tup [.int v.1, .int v.2]) → ∀ Q' : VK, Q' (.bl false) Hz → rNeD K (.ref x) (.ref y) Hz Q' := fun x y v Hz h1 h2 Q' q => ⟨pairD v, pairD v, dp_pair h1, dp_pair h2, sh_pair v, sh_pair v, by rw [ne_self (sh_pair v)]; exact q⟩
    -- all pairs as they are due
    refine ⟨fun σ' H' => σ' = [some (.ref a), some (.ref b), some (.int (0 + i)), some (.ref t1), some (.ref t2), some (.ref p2), some (.int z), some (.ref fl), some (.ref tm), some (.ref tn), some (.ref tl), some (.ref du), some (.ref p1), c13, c14] ∧ TurnI C Pt b t1 t2 p1 p2 n1 d1 n2 d2 H', ?_, ?_⟩
    · refine ⟨_, rfl, fl, rfl, ⟨_, SqL.of hfl5⟩, fun D nD => ?_⟩
      refine lc_list (K := K) (xs := vs) (fun m H' => Same H5 H' ∧ ∃ us : List V, H' D = some (.lst us) ∧ us.length = m ∧ PairsAt H' us ((dueA n1 d1 n2 d2 z ++ dueB n1 d1 z).take m)) ⟨Same.new nD, [], upd_same, rfl, .nil⟩ (fun m H' _ q => SqL.of (q.1 _ _ hfl5)) ?_ ?_
      · rintro m v H6 hv ⟨w6, us, g1, g2, g3⟩
        obtain ⟨p, u, rfl, hu, hp⟩ := hra5.get hv
        refine ⟨rfl, _, rfl, p, _, _, rfl, hp.mono w6, fun q H7 nq s7 hq => ?_⟩
        have hD7 := s7 _ _ g1
        refine ⟨_, hD7, ?_, ?_, us ++ [.ref q], upd_same, ?_, ?_⟩
        · rw [g2]
          have hm := (List.getElem?_eq_some_iff.mp hv).1
          rw [hra5.len] at hm
          exact Nat.lt_trans hm (by show 11 < sizeLine; decide)
        · intro c o e
          rw [upd_ne (ne_of_none e nD)]
          exact s7 _ _ (w6 _ _ e)
        · rw [List.length_append, g2]
          rfl
        · rw [take_snoc hu]
          exact (PairsAt.mono s7 g3 |>.updL hD7).append (.cons (by rw [upd_ne (fun e => by rw [e, hD7] at hq; cases hq)]; exact hq) .nil)
      · rintro H6 ⟨w6, us, g1, g2, g3⟩
        have hl : vs.length = 11 := hra5.len
        rw [hl] at g3
        have g3 := PairsAt.dp (K := K) g3
        refine ⟨_, rfl, .list ((dueA n1 d1 n2 d2 z ++ dueB n1 d1 z).map pairD), .list ((dueA n1 d1 n2 d2 z ++ dueB n1 d1 z).map pairD), .lst (SqL.of g1) g3, .lst (SqL.of (w6 _ _ hdu)) (dpAll_mono w6 _ _ hws), sh_pairs _, sh_pairs _, _, rfl, ?_⟩
        rw [ne_self (sh_pairs _)]
        exact ⟨rfl, TI5.mono w6⟩
    clear TI5 hfl5 hra5 hws hdu H5
    rintro σ' H2 ⟨rfl, TI⟩
    have nov : ∀ n d : Int, (ratF n d).lookup ("over" : Str) = none := fun n d => ratF_no n d (by decide +kernel) (by decide +kernel)
    -- over
    refine ⟨fun σ' H' => σ' = [some (.ref a), some (.ref b), some (.int (0 + i)), some (.ref t1), some (.ref t2), some (.ref p2), some (.int z), some (.ref fl), some (.ref tm), some (.ref tn), some (.ref tl), some (.ref du), some (.ref p1), c13, c14] ∧ TurnI C Pt b t1 t2 p1 p2 n1 d1 n2 d2 H', ?_, ?_⟩
    · refine ⟨_, rfl, t2, _, 0, _, rfl, rfl, SqT.of TI.o2, rfl, rfl, _, rfl, ?_⟩
      by_cases z2 : n2 = 0
      · refine itF (by rw [z2]; rfl) ?_
        exact ⟨rfl, TI⟩
      · refine itT (by rw [decide_eq_false fun e => z2 (V.int.inj e)]; rfl) ?_
        obtain ⟨x1, g1⟩ := TI.r1
        refine ⟨_, rfl, p1, x1, _, rfl, g1, nov _ _, _, rfl, p1, n1, d1, _, .r n2 d2, rfl, ⟨x1, g1⟩, .rat TI.r2, lo1, lo2.1, b1, b2, b3, b4, fun _ _ q H3 nq s3 hq => ?_, fun c => absurd c (by rintro (c | c); exact nomatch c; exact z2 c)⟩
        refine ⟨q, _, _, rfl, hq, fun r H4 nr s4 hr4 => ?_⟩
        have s34 := s3.trans s4
        have TI4 := TI.mono s34
        refine ⟨_, rfl, t1, _, 0, _, rfl, rfl, SqT.of TI4.o1, rfl, _, rfl, t2, _, 1, _, rfl, rfl, SqT.of TI4.o2, rfl, _, _, rfl, rfl, b1.cm b4 (by decide) (by decide) (by decide), ?_⟩
        refine ⟨_, rfl, t1, _, 1, _, rfl, rfl, SqT.of TI4.o1, rfl, _, rfl, t2, _, 0, _, rfl, rfl, SqT.of TI4.o2, rfl, _, _, rfl, rfl, b2.cm b3 (by decide) (by decide) (by decide), ?_⟩
        refine ⟨_, _, rfl, Int.mul_ne_zero d10 z2, (b1.mul b4).mono (by decide), (b2.mul b3).mono (by decide), fun r2 H5 nr2 s5 hr5 => nes r r2 _ _ (s5 _ _ hr4) hr5 _ ⟨_, rfl, rfl, TI4.mono s5⟩⟩
    clear TI H2
    rintro σ' H2 ⟨rfl, TI⟩
    refine ⟨fun σ' H' => σ' = [some (.ref a), some (.ref b), some (.int (0 + i)), some (.ref t1), some (.ref t2), some (.ref p2), some (.int z), some (.ref fl), some (.ref tm), some (.ref tn), some (.ref tl), some (.ref du), some (.ref p1), c13, c14] ∧ TurnI C Pt b t1 t2 p1 p2 n1 d1 n2 d2 H', ?_, ?_⟩
    · refine ⟨_, rfl, rfl, _, rfl, ?_⟩
      by_cases z2 : z = 0
      · refine itF (by rw [z2]; rfl) ?_
        exact ⟨rfl, TI⟩
      · refine itT (by rw [decide_eq_false fun e => z2 (V.int.inj e)]; rfl) ?_
        obtain ⟨x1, g1⟩ := TI.r1
        refine ⟨_, rfl, p1, x1, _, rfl, g1, nov _ _, _, rfl, rfl, rfl, p1, n1, d1, _, .i z, rfl, ⟨x1, g1⟩, .int z, lo1, (by show (0 : Int) < 1; decide), b1, b2, b5, b6, fun _ _ q H3 nq s3 hq => ?_, fun c => absurd c (by rintro (c | c); exact nomatch c; exact z2 c)⟩
        refine ⟨q, _, _, rfl, hq, fun r H4 nr s4 hr4 => ?_⟩
        have s34 := s3.trans s4
        have TI4 := TI.mono s34
        have hr4 : H4 r = some (.tup [.int (low (n1 * 1) (d1 * z)).1, .int (low (n1 * 1) (d1 * z)).2]) := hr4
        rw [Int.mul_one] at hr4
        refine ⟨_, rfl, t1, _, 0, _, rfl, rfl, SqT.of TI4.o1, rfl, ?_⟩
        refine ⟨_, rfl, t1, _, 1, _, rfl, rfl, SqT.of TI4.o1, rfl, _, rfl, _, _, rfl, rfl, b2.cm b5 (by decide) (by decide) (by decide), ?_⟩
        refine ⟨_, _, rfl, Int.mul_ne_zero d10 z2, b1.mono (by decide), (b2.mul b5).mono (by decide), fun r2 H5 nr2 s5 hr5 => nes r r2 _ _ (s5 _ _ hr4) hr5 _ ⟨_, rfl, rfl, TI4.mono s5⟩⟩
    clear TI H2
    rintro σ' H2 ⟨rfl, TI⟩
    refine ⟨fun σ' H' => σ' = [some (.ref a), some (.ref b), some (.int (0 + i)), some (.ref t1), some (.ref t2), some (.ref p2), some (.int z), some (.ref fl), some (.ref tm), some (.ref tn), some (.ref tl), some (.ref du), some (.ref p1), c13, c14] ∧ TurnI C Pt b t1 t2 p1 p2 n1 d1 n2 d2 H', ?_, ?_⟩
    · refine ⟨_, rfl, p1, _, _, rfl, TI.r1, fun r H3 nr s3 hr3 => ⟨_, rfl, nes r t1 (n1, d1) _ hr3 (s3 _ _ TI.o1) _ ⟨_, rfl, ?_⟩⟩⟩
      refine ⟨_, rfl, p2, _, _, rfl, (TI.mono s3).r2, fun r2 H4 nr2 s4 hr4 => ⟨_, rfl, nes r2 t2 (n2, d2) _ hr4 (s4 _ _ (s3 _ _ TI.o2)) _ ⟨_, rfl, rfl, (TI.mono s3).mono s4⟩⟩⟩
    clear TI H2
    rintro σ' H2 ⟨rfl, TI⟩
    -- odd
    refine ⟨fun σ' H' => ∃ (v : V) (kv : Kr), σ' = [some (.ref a), some (.ref b), some (.int (0 + i)), some (.ref t1), some (.ref t2), some (.ref p2), some (.int z), some (.ref fl), some (.ref tm), some (.ref tn), some (.ref tl), some (.ref du), some (.ref p1), some v, c14] ∧ Bag H' b ∧ LamX.TabS H' Pt "law.<locals>.<lambda>" ∧ RatAt C H' p1 n1 d1 ∧ KindR K C H' v kv ∧ (kv.isN = false ∨ kv.top = 0) ∧ 0 < kv.bot ∧ Bt 1000 kv.top ∧ Bt 1000 kv.bot ∧ (scal v v = true ∨ ∃ p, v = .ref p ∧ RatAt C H' p 0 1), ?_, ?_⟩
    · refine ⟨_, rfl, fun x dx nx nd _ => ?_⟩
      refine ⟨x, dx, _, _, .i 0, .i 1, rfl, upd_same, .int 0, .int 1, fun n d e1 e2 _ => ?_, fun z => (nomatch z), fun _ z => z.elim (fun z => nomatch z) (fun z => nomatch z)⟩
      cases e1
      cases e2
      refine ⟨Nat.two_pow_pos _, Bt.one (by decide), rfl, ?_⟩
      rw [upd_upd, low_of (lo_one 0)]
      have s3 : Same H2 (upd (upd H2 dx (.own x)) x (.ins C dx (ratF 0 1))) := Same.make nx nd
      refine ⟨(by show 6 ≤ sizeLine; decide), fun l nl => ?_⟩
      have s4 := s3.trans (Same.new (o := .lst [.int 0, .non, .str "2", .bl true, .bl false, .ref x]) nl)
      have TI4 := TI.mono s4
      refine ⟨b, l, _, rfl, TI4.bag, SqL.of upd_same, ?_, (by show 0 < 6; decide), (by show 6 < 1000; decide), fun jj v o hv hb5 => ?_⟩
      · intro e
        obtain ⟨ys, hy⟩ := (TI.bag.same s3).lst
        rw [← e, nl] at hy
        cases hy
      · have t5 := tabS_pull (o := o) TI4.tab TI4.bag
        have r5' := rat_pull (o := o) TI4.r1 TI4.bag
        have rx : RatAt C (upd (upd (upd (upd H2 dx (.own x)) x (.ins C dx (ratF 0 1))) l (.lst [.int 0, .non, .str "2", .bl true, .bl false, .ref x])) b o) x 0 1 := rat_pull (RatAt.mono ⟨dx, upd_same⟩ (Same.new nl)) TI4.bag
        have hj : jj < 6 := (List.getElem?_eq_some_iff.mp hv).1
        match jj, hj, hv with
        | 0, _, hv => cases hv; exact ⟨_, .i 0, rfl, hb5, t5, r5', .int 0, .inr rfl, by decide, Nat.two_pow_pos _, b6, .inl rfl⟩
        | 1, _, hv => cases hv; exact ⟨_, .no, rfl, hb5, t5, r5', .dat .non rfl, .inl rfl, by decide, Nat.two_pow_pos _, b6, .inl rfl⟩
        | 2, _, hv => cases hv; exact ⟨_, .no, rfl, hb5, t5, r5', .dat (.str _) rfl, .inl rfl, by decide, Nat.two_pow_pos _, b6, .inl rfl⟩
        | 3, _, hv => cases hv; exact ⟨_, .no, rfl, hb5, t5, r5', .dat (.bl _) rfl, .inl rfl, by decide, Nat.two_pow_pos _, b6, .inl rfl⟩
        | 4, _, hv => cases hv; exact ⟨_, .no, rfl, hb5, t5, r5', .dat (.bl _) rfl, .inl rfl, by decide, Nat.two_pow_pos _, b6, .inl rfl⟩
        | 5, _, hv => cases hv; exact ⟨_, .r 0 1, rfl, hb5, t5, r5', .rat rx, .inr rfl, by decide, Nat.two_pow_pos _, b6, .inr ⟨x, rfl, rx⟩⟩
    clear TI H2
    rintro σ' H2 ⟨v, kv, rfl, hb2, tb2, r1', hk, hz, kb, bt, bb, hsc⟩
    -- why
    refine ⟨fun σ' H' => ∃ (v : V) (pw : Addr), σ' = [some (.ref a), some (.ref b), some (.int (0 + i)), some (.ref t1), some (.ref t2), some (.ref p2), some (.int z), some (.ref pw), some (.ref tm), some (.ref tn), some (.ref tl), some (.ref du), some (.ref p1), some v, c14] ∧ Bag H' b ∧ LamX.TabS H' Pt "law.<locals>.<lambda>" ∧ H' pw = some (.tup [.str "InvalidNumber", v]) ∧ (scal v v = true ∨ ∃ p, v = .ref p ∧ RatAt C H' p 0 1), ?_, ?_⟩
    · refine ⟨fun q hq => ?_, fun H8 x8 tb8 => ?_⟩
      · cases hq with
        | head => exact tb2
        | tail _ h => cases h
      · obtain ⟨x1, g1⟩ := r1'.extN x8
        refine ⟨_, rfl, p1, x1, _, rfl, g1, nov _ _, _, rfl, p1, n1, d1, v, kv, rfl, ⟨x1, g1⟩, hk.extN x8, lo1, kb, b1, b2, bt, bb, fun c1 c2 => ?_, fun _ H9 s9 e ne => ?_⟩
        · exact absurd hz (by rintro (c | c); rw [c] at c1; cases c1; exact c2 c)
        · refine ⟨"InvalidNumber", "given", v, T.em, ⟨CE, e, _, rfl, T.er.xf, T.er.nc, T.er.nf, rfl, upd_same, ?_, ?_⟩, by decide +kernel, fun p H10 np s10 hp => ?_⟩
          · rw [lookup_put, if_neg (by decide +kernel), lookup_put, if_pos rfl]
          · rw [lookup_put, if_pos rfl]
          · have sa := (s9.trans (Same.new (o := invD v) ne)).trans s10
            refine ⟨v, p, rfl, (hb2.extN x8).same sa, (tb8 _ (List.Mem.head _)).ext sa, hp, ?_⟩
            rcases hsc with h | ⟨p', h1, h2⟩
            · exact .inl h
            · exact .inr ⟨p', h1, (h2.extN x8).mono sa⟩
    clear hb2 tb2 r1' hk hsc hz bt bb kb
    rintro σ' H3 ⟨v', pw, rfl, hb3, tb3, hpw, hsc⟩
    refine ⟨_, rfl, pw, _, 0, _, rfl, rfl, SqT.of hpw, rfl, rfl, _, rfl, ?_⟩
    refine itF (by simp) ?_
    refine ⟨_, rfl, pw, _, 1, _, rfl, rfl, SqT.of hpw, rfl, _, rfl, ?_⟩
    rcases hsc with h | ⟨p', rfl, dx', h'⟩
    · refine .inl ⟨h, _, rfl, ?_⟩
      refine itF (by simp) ?_
      exact ⟨_, _, _, _, _, _, _, _, _, _, _, _, _, rfl, hb3, tb3⟩
    · refine .inr ⟨p', dx', _, .ref C, rfl, h', T.tyi _ _ _ _ h', nf_self, p', 0, 1, _, .r 0 1, rfl, ⟨dx', h'⟩, .rat ⟨dx', h'⟩, Nat.two_pow_pos _, fun H4 s4 => ⟨_, rfl, _, rfl, ?_⟩⟩
      exact ⟨_, _, _, _, _, _, _, _, _, _, _, _, _, rfl, hb3.same s4, tb3.ext s4⟩
end
end Mine
namespace Mine
open PySem PySem.Spec PyProof.Rows L2
theorem all_mk {l : PySem.W.OpenLaw} {w : World} {K : PySem.W.Frag} {h : Heap} {mg : Str → Option Value} {fa : Addr} (X : K.In h) (G : h.Ns mainGlobals mg) (hfa : mg "law" = some (.ref fa)) (own : LamX.OwnTab K fa h)
    {cz Pt : Addr} {cdo : Value} {cdd : Option Addr} {cvs : Array Value} {csl : Array (Option Value)} {fL : Addr} {ocL dcL pmL ctL kVL : Value} {odL anL : Option Addr} {slL : Array (Option Value)} {C CE CS CM TR : Addr} {t0 : Tok} {nT : Nat} {odT0 : Option Addr} {slT0 : Array (Option Value)} {fWh : Addr} {ocWh dcWh pmWh ctWh kVWh cdWh : Value} {odWh anWh : Option Addr} {slWh : Array (Option Value)} {fNu : Addr} {ocNu dcNu pmNu ctNu kVNu cdNu : Value} {odNu anNu : Option Addr} {slNu : Array (Option Value)} {fRo : Addr} {ocRo dcRo pmRo ctRo kVRo cdRo : Value} {odRo anRo : Option Addr} {slRo : Array (Option Value)} {fE : Addr} {ocE dcE pmE ctE kVE cdE : Value} {odE anE : Option Addr} {slE : Array (Option Value)} {fR : Addr} {ocR dcR pmR ctR kVR cdR : Value} {odR anR : Option Addr} {slR : Array (Option Value)} {nmCE qCE : Str} {NCE : Addr} {bsCE bmCE : List Value} {snCE : List Str} {subCE : List Value} {abCE : Bool} {colCE : Option Bool} {ddCE : Option Addr} {m0CE m1CE m2CE m3CE m5CE : Option Value} {fA : Addr} {ocA dcA pmA ctA kVA cdA : Value} {odA anA : Option Addr} {slA : Array (Option Value)} {frA : Addr} {ocrA dcrA pmrA ctrA kVrA cdrA : Value} {odrA anrA : Option Addr} {slrA : Array (Option Value)} {fSu : Addr} {ocSu dcSu pmSu ctSu kVSu cdSu : Value} {odSu anSu : Option Addr} {slSu : Array (Option Value)} {frS : Addr} {ocrS dcrS pmrS ctrS kVrS cdrS : Value} {odrS anrS : Option Addr} {slrS : Array (Option Value)} {fMu : Addr} {ocMu dcMu pmMu ctMu kVMu cdMu : Value} {odMu anMu : Option Addr} {slMu : Array (Option Value)} {frM : Addr} {ocrM dcrM pmrM ctrM kVrM cdrM : Value} {odrM anrM : Option Addr} {slrM : Array (Option Value)} {fNe : Addr} {ocNe dcNe pmNe ctNe kVNe cdNe : Value} {odNe anNe : Option Addr} {slNe : Array (Option Value)} {fAb : Addr} {ocAb dcAb pmAb ctAb kVAb cdAb : Value} {odAb anAb : Option Addr} {slAb : Array (Option Value)} {fOv : Addr} {ocOv dcOv pmOv ctOv kVOv cdOv : Value} {odOv anOv : Option Addr} {slOv : Array (Option Value)} {fQ : Addr} {ocQ dcQ pmQ ctQ kVQ cdQ : Value} {odQ anQ : Option Addr} {slQ : Array (Option Value)} {fBa : Addr} {ocBa dcBa pmBa ctBa kVBa cdBa : Value} {odBa anBa : Option Addr} {slBa : Array (Option Value)} {fP : Addr} {ocP dcP pmP ctP kVP cdP : Value} {odP anP : Option Addr} {slP : Array (Option Value)} {fOf : Addr} {ocOf dcOf pmOf ctOf kVOf cdOf : Value} {odOf anOf : Option Addr} {slOf : Array (Option Value)} {fF : Addr} {ocF dcF pmF ctF kVF cdF : Value} {odF anF : Option Addr} {slF : Array (Option Value)} {fX : Addr} {ocX dcX pmX ctX kVX cdX : Value} {odX anX : Option Addr} {slX : Array (Option Value)} {fW : Addr} {ocW dcW pmW ctW kVW cdW : Value} {odW anW : Option Addr} {slW : Array (Option Value)} {fLo : Addr} {ocLo dcLo pmLo ctLo kVLo cdLo : Value} {odLo anLo : Option Addr} {slLo : Array (Option Value)} {fSm : Addr} {ocSm dcSm pmSm ctSm kVSm cdSm : Value} {odSm anSm : Option Addr} {slSm : Array (Option Value)} {fLr : Addr} {ocLr dcLr pmLr ctLr kVLr cdLr : Value} {odLr anLr : Option Addr} {slLr : Array (Option Value)} {fPl : Addr} {ocPl dcPl pmPl ctPl kVPl cdPl : Value} {odPl anPl : Option Addr} {slPl : Array (Option Value)} {fCr : Addr} {ocCr dcCr pmCr ctCr kVCr cdCr : Value} {odCr anCr : Option Addr} {slCr : Array (Option Value)} {fPa : Addr} {ocPa dcPa pmPa ctPa kVPa cdPa : Value} {odPa anPa : Option Addr} {slPa : Array (Option Value)}
    (aL : PySem.W.nsIn K mainGlobals "law" = some (some (.ref fL)))
    (lL : K.lookup fL = some ⟨ocL, odL, .func (PySem.W.fnOf "law" "law" (defArgs s_law) (defBody s_law) (defScope s_law) .none kVL dcL pmL anL (.ref cz) ctL), slL⟩)
    (cL : PySem.W.codeIn K (.ref cz) "law" = true)
    (kL : PySem.W.keepIn K (.ref fL) = true)
    (lc : K.lookup cz = some ⟨cdo, cdd, .fields cvs, csl⟩)
    (vc : cvs[11]? = some (.ref Pt))
    (ch : PySem.W.codeHdIn K cz Pt = true)
    (nP : K.lookup Pt = none)
    (aC : PySem.W.nsIn K mainGlobals "Ratio" = some (some (.ref C)))
    (aCE : PySem.W.nsIn K mainGlobals "InvalidNumber" = some (some (.ref CE)))
    (aCS : PySem.W.nsIn K mainGlobals "SlopeError" = some (some (.ref CS)))
    (aCM : PySem.W.nsIn K mainGlobals "Missing" = some (some (.ref CM)))
    (aWh : PySem.W.nsIn K mainGlobals "is_whole" = some (some (.ref fWh)))
    (lWh : K.lookup fWh = some ⟨ocWh, odWh, .func (PySem.W.fnOf "is_whole" "is_whole" (defArgs s_is_whole) (defBody s_is_whole) (defScope s_is_whole) .none kVWh dcWh pmWh anWh cdWh ctWh), slWh⟩)
    (cWh : PySem.W.codeIn K cdWh "is_whole" = true)
    (kWh : PySem.W.keepIn K (.ref fWh) = true)
    (aNu : PySem.W.nsIn K mainGlobals "is_number" = some (some (.ref fNu)))
    (lNu : K.lookup fNu = some ⟨ocNu, odNu, .func (PySem.W.fnOf "is_number" "is_number" (defArgs s_is_number) (defBody s_is_number) (defScope s_is_number) .none kVNu dcNu pmNu anNu cdNu ctNu), slNu⟩)
    (cNu : PySem.W.codeIn K cdNu "is_number" = true)
    (kNu : PySem.W.keepIn K (.ref fNu) = true)
    (aRo : PySem.W.nsIn K mainGlobals "ratio_of" = some (some (.ref fRo)))
    (lRo : K.lookup fRo = some ⟨ocRo, odRo, .func (PySem.W.fnOf "ratio_of" "ratio_of" (defArgs s_ratio_of) (defBody s_ratio_of) (defScope s_ratio_of) .none kVRo dcRo pmRo anRo cdRo ctRo), slRo⟩)
    (cRo : PySem.W.codeIn K cdRo "ratio_of" = true)
    (kRo : PySem.W.keepIn K (.ref fRo) = true)
    (aE : PySem.W.findIn K (.ref CE) "__init__" = some (some (.ref fE)))
    (lE : K.lookup fE = some ⟨ocE, odE, .func (PySem.W.fnOf "__init__" "InvalidNumber.__init__" (defArgs s_InvalidNumber_D_initD_) (defBody s_InvalidNumber_D_initD_) (defScope s_InvalidNumber_D_initD_) .none kVE dcE pmE anE cdE ctE), slE⟩)
    (cE : PySem.W.codeIn K cdE "InvalidNumber.__init__" = true)
    (kE : PySem.W.keepIn K (.ref fE) = true)
    (tE : PySem.W.typeIn K (.ref fE) = some (.type "function"))
    (aR : PySem.W.findIn K (.ref C) "__init__" = some (some (.ref fR)))
    (lR : K.lookup fR = some ⟨ocR, odR, .func (PySem.W.fnOf "__init__" "Ratio.__init__" (defArgs s_Ratio_D_initD_) (defBody s_Ratio_D_initD_) (defScope s_Ratio_D_initD_) (.ref TR) kVR dcR pmR anR cdR ctR), slR⟩)
    (cR : PySem.W.codeIn K cdR "Ratio.__init__" = true)
    (kR : PySem.W.keepIn K (.ref fR) = true)
    (iR : PySem.W.isFn K (.ref fR) = true)
    (lT0 : K.lookup TR = some ⟨.type "tuple", odT0, .seq #[.int 1 t0] nT, slT0⟩)
    (pgC : PySem.W.plainGet K C Str.empty = true)
    (hdC : PySem.W.hasDictIn K C = true)
    (poC : PySem.W.plainOver K C = true)
    (saC : PySem.W.findIn K (.ref C) "__setattr__" = some (some (.builtin "object.__setattr__")))
    (mkC : PySem.W.makesIn K C = true)
    (kcC : PySem.W.keepIn K (.ref C) = true)
    (haC : PySem.W.findIn K (.ref C) "__class__" = some (some (.builtin "object.__class__")))
    (hmC : PySem.W.mroIn K C (.type "object") = some true)
    (nC_top : PySem.W.findIn K (.ref C) "top" = some none)
    (nC_bottom : PySem.W.findIn K (.ref C) "bottom" = some none)
    (hn : PySem.W.specialIn K (.builtin "object.__class__") "__get__" = some (some (.builtin "getset_descriptor.__get__")))
    (htk : PySem.W.takesIn K (.builtin "object.__class__") = some true)
    (kd_NoneType : PySem.W.kitOne K (.type "NoneType") (.ref C) = some false)
    (kd_bool : PySem.W.kitOne K (.type "bool") (.ref C) = some false)
    (kd_int : PySem.W.kitOne K (.type "int") (.ref C) = some false)
    (kd_str : PySem.W.kitOne K (.type "str") (.ref C) = some false)
    (kd_list : PySem.W.kitOne K (.type "list") (.ref C) = some false)
    (kd_tuple : PySem.W.kitOne K (.type "tuple") (.ref C) = some false)
    (kd_dict : PySem.W.kitOne K (.type "dict") (.ref C) = some false)
    (ki : PySem.W.kitOne K (.ref C) (.type "int") = some false)
    (gcd : PySem.W.nsIn K mainGlobals "gcd" = some (some (.builtin "math.gcd")))
    (xCE : K.lookup CE = some (excClassObj nmCE qCE CE NCE bsCE bmCE true snCE subCE abCE colCE ddCE m0CE m1CE m2CE m3CE m5CE "ValueError.__new__"))
    (xrCE : PySem.HandSPX.refsVE bmCE = true)
    (xsCE : PySem.W.findIn K (.ref CE) "__setattr__" = some (some (.builtin "object.__setattr__")))
    (xeCE : PySem.W.subIn K (.ref CE) (.type "BaseException") = some true)
    (xtCE : PySem.W.typeIn K (.ref CE) = some (.type "type"))
    (xkCE : PySem.W.keepIn K (.ref CE) = true)
    (xgCE : PySem.W.findIn K (.ref CE) "__getattribute__" = some (some (.builtin "BaseException.__getattribute__")))
    (xaCE : PySem.W.findIn K (.ref CE) "__getattr__" = some none)
    (xhCE : PySem.W.hasDictIn K CE = true)
    (nCE_code : PySem.W.findIn K (.ref CE) "code" = some none)
    (nCE_given : PySem.W.findIn K (.ref CE) "given" = some none)
    (em : PySem.W.exmAny K (.ref CE) [.ref CS, .ref CM] = some true)
    (sf : PySem.W.selfFirst K C = true)
    (s1 : PySem.W.subIn K (.type "int") (.ref C) = some false)
    (s2 : PySem.W.subIn K (.ref C) (.type "int") = some false)
    (aA : PySem.W.findIn K (.ref C) "__add__" = some (some (.ref fA)))
    (lA : K.lookup fA = some ⟨ocA, odA, .func (PySem.W.fnOf "__add__" "Ratio.__add__" (defArgs s_Ratio_D_addD_) (defBody s_Ratio_D_addD_) (defScope s_Ratio_D_addD_) .none kVA dcA pmA anA cdA ctA), slA⟩)
    (cA : PySem.W.codeIn K cdA "Ratio.__add__" = true)
    (kA : PySem.W.keepIn K (.ref fA) = true)
    (arA : PySem.W.findIn K (.ref C) "__radd__" = some (some (.ref frA)))
    (lrA : K.lookup frA = some ⟨ocrA, odrA, .func (PySem.W.fnOf "__radd__" "Ratio.__radd__" (defArgs s_Ratio_D_raddD_) (defBody s_Ratio_D_raddD_) (defScope s_Ratio_D_raddD_) .none kVrA dcrA pmrA anrA cdrA ctrA), slrA⟩)
    (crA : PySem.W.codeIn K cdrA "Ratio.__radd__" = true)
    (krA : PySem.W.keepIn K (.ref frA) = true)
    (iA : PySem.W.isFn K (.ref fA) = true)
    (irA : PySem.W.isFn K (.ref frA) = true)
    (t_add : PySem.W.findIn K (.type "int") (PySem.dunder "add") = some (some (.builtin "int.__add__")))
    (tr_add : PySem.W.findIn K (.type "int") (dunderR "add") = some (some (.builtin "int.__radd__")))
    (aSu : PySem.W.findIn K (.ref C) "__sub__" = some (some (.ref fSu)))
    (lSu : K.lookup fSu = some ⟨ocSu, odSu, .func (PySem.W.fnOf "__sub__" "Ratio.__sub__" (defArgs s_Ratio_D_subD_) (defBody s_Ratio_D_subD_) (defScope s_Ratio_D_subD_) .none kVSu dcSu pmSu anSu cdSu ctSu), slSu⟩)
    (cSu : PySem.W.codeIn K cdSu "Ratio.__sub__" = true)
    (kSu : PySem.W.keepIn K (.ref fSu) = true)
    (arS : PySem.W.findIn K (.ref C) "__rsub__" = some (some (.ref frS)))
    (lrS : K.lookup frS = some ⟨ocrS, odrS, .func (PySem.W.fnOf "__rsub__" "Ratio.__rsub__" (defArgs s_Ratio_D_rsubD_) (defBody s_Ratio_D_rsubD_) (defScope s_Ratio_D_rsubD_) .none kVrS dcrS pmrS anrS cdrS ctrS), slrS⟩)
    (crS : PySem.W.codeIn K cdrS "Ratio.__rsub__" = true)
    (krS : PySem.W.keepIn K (.ref frS) = true)
    (iSu : PySem.W.isFn K (.ref fSu) = true)
    (irS : PySem.W.isFn K (.ref frS) = true)
    (t_sub : PySem.W.findIn K (.type "int") (PySem.dunder "sub") = some (some (.builtin "int.__sub__")))
    (tr_sub : PySem.W.findIn K (.type "int") (dunderR "sub") = some (some (.builtin "int.__rsub__")))
    (aMu : PySem.W.findIn K (.ref C) "__mul__" = some (some (.ref fMu)))
    (lMu : K.lookup fMu = some ⟨ocMu, odMu, .func (PySem.W.fnOf "__mul__" "Ratio.__mul__" (defArgs s_Ratio_D_mulD_) (defBody s_Ratio_D_mulD_) (defScope s_Ratio_D_mulD_) .none kVMu dcMu pmMu anMu cdMu ctMu), slMu⟩)
    (cMu : PySem.W.codeIn K cdMu "Ratio.__mul__" = true)
    (kMu : PySem.W.keepIn K (.ref fMu) = true)
    (arM : PySem.W.findIn K (.ref C) "__rmul__" = some (some (.ref frM)))
    (lrM : K.lookup frM = some ⟨ocrM, odrM, .func (PySem.W.fnOf "__rmul__" "Ratio.__rmul__" (defArgs s_Ratio_D_rmulD_) (defBody s_Ratio_D_rmulD_) (defScope s_Ratio_D_rmulD_) .none kVrM dcrM pmrM anrM cdrM ctrM), slrM⟩)
    (crM : PySem.W.codeIn K cdrM "Ratio.__rmul__" = true)
    (krM : PySem.W.keepIn K (.ref frM) = true)
    (iMu : PySem.W.isFn K (.ref fMu) = true)
    (irM : PySem.W.isFn K (.ref frM) = true)
    (t_mul : PySem.W.findIn K (.type "int") (PySem.dunder "mul") = some (some (.builtin "int.__mul__")))
    (tr_mul : PySem.W.findIn K (.type "int") (dunderR "mul") = some (some (.builtin "int.__rmul__")))
    (aNe : PySem.W.findIn K (.ref C) "__neg__" = some (some (.ref fNe)))
    (lNe : K.lookup fNe = some ⟨ocNe, odNe, .func (PySem.W.fnOf "__neg__" "Ratio.__neg__" (defArgs s_Ratio_D_negD_) (defBody s_Ratio_D_negD_) (defScope s_Ratio_D_negD_) .none kVNe dcNe pmNe anNe cdNe ctNe), slNe⟩)
    (cNe : PySem.W.codeIn K cdNe "Ratio.__neg__" = true)
    (kNe : PySem.W.keepIn K (.ref fNe) = true)
    (aAb : PySem.W.findIn K (.ref C) "__abs__" = some (some (.ref fAb)))
    (lAb : K.lookup fAb = some ⟨ocAb, odAb, .func (PySem.W.fnOf "__abs__" "Ratio.__abs__" (defArgs s_Ratio_D_absD_) (defBody s_Ratio_D_absD_) (defScope s_Ratio_D_absD_) .none kVAb dcAb pmAb anAb cdAb ctAb), slAb⟩)
    (cAb : PySem.W.codeIn K cdAb "Ratio.__abs__" = true)
    (kAb : PySem.W.keepIn K (.ref fAb) = true)
    (iNe : PySem.W.isFn K (.ref fNe) = true)
    (iAb : PySem.W.isFn K (.ref fAb) = true)
    (aOv : PySem.W.findIn K (.ref C) "over" = some (some (.ref fOv)))
    (lOv : K.lookup fOv = some ⟨ocOv, odOv, .func (PySem.W.fnOf "over" "Ratio.over" (defArgs s_Ratio_over) (defBody s_Ratio_over) (defScope s_Ratio_over) .none kVOv dcOv pmOv anOv cdOv ctOv), slOv⟩)
    (cOv : PySem.W.codeIn K cdOv "Ratio.over" = true)
    (kOv : PySem.W.keepIn K (.ref fOv) = true)
    (iOv : PySem.W.isFn K (.ref fOv) = true)
    (aQ : PySem.W.findIn K (.ref C) "__eq__" = some (some (.ref fQ)))
    (lQ : K.lookup fQ = some ⟨ocQ, odQ, .func (PySem.W.fnOf "__eq__" "Ratio.__eq__" (defArgs s_Ratio_D_eqD_) (defBody s_Ratio_D_eqD_) (defScope s_Ratio_D_eqD_) .none kVQ dcQ pmQ anQ cdQ ctQ), slQ⟩)
    (cQ : PySem.W.codeIn K cdQ "Ratio.__eq__" = true)
    (kQ : PySem.W.keepIn K (.ref fQ) = true)
    (iQ : PySem.W.isFn K (.ref fQ) = true)
    (ne : PySem.W.findIn K (.ref C) "__ne__" = some (some (.builtin "object.__ne__")))
    (aBa : PySem.W.nsIn K mainGlobals "_law_bag" = some (some (.ref fBa)))
    (lBa : K.lookup fBa = some ⟨ocBa, odBa, .func (PySem.W.fnOf "_law_bag" "_law_bag" (defArgs s_L_bag) (defBody s_L_bag) (defScope s_L_bag) .none kVBa dcBa pmBa anBa cdBa ctBa), slBa⟩)
    (cBa : PySem.W.codeIn K cdBa "_law_bag" = true)
    (kBa : PySem.W.keepIn K (.ref fBa) = true)
    (aP : PySem.W.nsIn K mainGlobals "_law_pull" = some (some (.ref fP)))
    (lP : K.lookup fP = some ⟨ocP, odP, .func (PySem.W.fnOf "_law_pull" "_law_pull" (defArgs s_L_pull) (defBody s_L_pull) (defScope s_L_pull) .none kVP dcP pmP anP cdP ctP), slP⟩)
    (cP : PySem.W.codeIn K cdP "_law_pull" = true)
    (kP : PySem.W.keepIn K (.ref fP) = true)
    (aOf : PySem.W.nsIn K mainGlobals "_law_of" = some (some (.ref fOf)))
    (lOf : K.lookup fOf = some ⟨ocOf, odOf, .func (PySem.W.fnOf "_law_of" "_law_of" (defArgs s_L_of) (defBody s_L_of) (defScope s_L_of) .none kVOf dcOf pmOf anOf cdOf ctOf), slOf⟩)
    (cOf : PySem.W.codeIn K cdOf "_law_of" = true)
    (kOf : PySem.W.keepIn K (.ref fOf) = true)
    (aF : PySem.W.nsIn K mainGlobals "_law_field" = some (some (.ref fF)))
    (lF : K.lookup fF = some ⟨ocF, odF, .func (PySem.W.fnOf "_law_field" "_law_field" (defArgs s_L_field) (defBody s_L_field) (defScope s_L_field) .none kVF dcF pmF anF cdF ctF), slF⟩)
    (cF : PySem.W.codeIn K cdF "_law_field" = true)
    (kF : PySem.W.keepIn K (.ref fF) = true)
    (aX : PySem.W.nsIn K mainGlobals "_law_other_field" = some (some (.ref fX)))
    (lX : K.lookup fX = some ⟨ocX, odX, .func (PySem.W.fnOf "_law_other_field" "_law_other_field" (defArgs s_L_other_field) (defBody s_L_other_field) (defScope s_L_other_field) .none kVX dcX pmX anX cdX ctX), slX⟩)
    (cX : PySem.W.codeIn K cdX "_law_other_field" = true)
    (kX : PySem.W.keepIn K (.ref fX) = true)
    (aW : PySem.W.nsIn K mainGlobals "_law_why" = some (some (.ref fW)))
    (lW : K.lookup fW = some ⟨ocW, odW, .func (PySem.W.fnOf "_law_why" "_law_why" (defArgs s_L_why) (defBody s_L_why) (defScope s_L_why) .none kVW dcW pmW anW cdW ctW), slW⟩)
    (cW : PySem.W.codeIn K cdW "_law_why" = true)
    (kW : PySem.W.keepIn K (.ref fW) = true)
    (aLo : PySem.W.nsIn K mainGlobals "_law_low" = some (some (.ref fLo)))
    (lLo : K.lookup fLo = some ⟨ocLo, odLo, .func (PySem.W.fnOf "_law_low" "_law_low" (defArgs s_L_low) (defBody s_L_low) (defScope s_L_low) .none kVLo dcLo pmLo anLo cdLo ctLo), slLo⟩)
    (cLo : PySem.W.codeIn K cdLo "_law_low" = true)
    (kLo : PySem.W.keepIn K (.ref fLo) = true)
    (aSm : PySem.W.nsIn K mainGlobals "_law_small" = some (some (.ref fSm)))
    (lSm : K.lookup fSm = some ⟨ocSm, odSm, .func (PySem.W.fnOf "_law_small" "_law_small" (defArgs s_L_small) (defBody s_L_small) (defScope s_L_small) .none kVSm dcSm pmSm anSm cdSm ctSm), slSm⟩)
    (cSm : PySem.W.codeIn K cdSm "_law_small" = true)
    (kSm : PySem.W.keepIn K (.ref fSm) = true)
    (aLr : PySem.W.nsIn K mainGlobals "_law_ratio" = some (some (.ref fLr)))
    (lLr : K.lookup fLr = some ⟨ocLr, odLr, .func (PySem.W.fnOf "_law_ratio" "_law_ratio" (defArgs s_L_ratio) (defBody s_L_ratio) (defScope s_L_ratio) .none kVLr dcLr pmLr anLr cdLr ctLr), slLr⟩)
    (cLr : PySem.W.codeIn K cdLr "_law_ratio" = true)
    (kLr : PySem.W.keepIn K (.ref fLr) = true)
    (aPl : PySem.W.nsIn K mainGlobals "_law_plus" = some (some (.ref fPl)))
    (lPl : K.lookup fPl = some ⟨ocPl, odPl, .func (PySem.W.fnOf "_law_plus" "_law_plus" (defArgs s_L_plus) (defBody s_L_plus) (defScope s_L_plus) .none kVPl dcPl pmPl anPl cdPl ctPl), slPl⟩)
    (cPl : PySem.W.codeIn K cdPl "_law_plus" = true)
    (kPl : PySem.W.keepIn K (.ref fPl) = true)
    (aCr : PySem.W.nsIn K mainGlobals "_law_cross" = some (some (.ref fCr)))
    (lCr : K.lookup fCr = some ⟨ocCr, odCr, .func (PySem.W.fnOf "_law_cross" "_law_cross" (defArgs s_L_cross) (defBody s_L_cross) (defScope s_L_cross) .none kVCr dcCr pmCr anCr cdCr ctCr), slCr⟩)
    (cCr : PySem.W.codeIn K cdCr "_law_cross" = true)
    (kCr : PySem.W.keepIn K (.ref fCr) = true)
    (aPa : PySem.W.nsIn K mainGlobals "_law_pair" = some (some (.ref fPa)))
    (lPa : K.lookup fPa = some ⟨ocPa, odPa, .func (PySem.W.fnOf "_law_pair" "_law_pair" (defArgs s_L_pair) (defBody s_L_pair) (defScope s_L_pair) .none kVPa dcPa pmPa anPa cdPa ctPa), slPa⟩)
    (cPa : PySem.W.codeIn K cdPa "_law_pair" = true)
    (kPa : PySem.W.keepIn K (.ref fPa) = true)
    (z_len : PySem.W.nsIn K mainGlobals "len" = some none)
    (z_abs : PySem.W.nsIn K mainGlobals "abs" = some none)
    (z_int : PySem.W.nsIn K mainGlobals "int" = some none)
    (z_list : PySem.W.nsIn K mainGlobals "list" = some none)
    (z_isinstance : PySem.W.nsIn K mainGlobals "isinstance" = some none)
    (z_bool : PySem.W.nsIn K mainGlobals "bool" = some none)
    (z_range : PySem.W.nsIn K mainGlobals "range" = some none) :
    LamX.LawAtS l w K CX0 9 63 "_law_script" mg fa h := by
  have e := hfa.symm.trans (PySem.W.mg_of X G aL)
  cases e
  have FWh := fun_mk (st := s_is_whole) lWh cWh kWh
  have bWh := FWh.binds (ps := ["value"]) fun _ _ _ _ _ _ us hl => match us, hl with | [_], _ => rfl
  have FNu := fun_mk (st := s_is_number) lNu cNu kNu
  have bNu := FNu.binds (ps := ["value"]) fun _ _ _ _ _ _ us hl => match us, hl with | [_], _ => rfl
  have FRo := fun_mk (st := s_ratio_of) lRo cRo kRo
  have bRo := FRo.binds (ps := ["value"]) fun _ _ _ _ _ _ us hl => match us, hl with | [_], _ => rfl
  have FE := fun_mk (st := s_InvalidNumber_D_initD_) lE cE kE
  have bE := FE.binds (ps := ["self", "given"]) fun _ _ _ _ _ _ us hl => match us, hl with | [_, _], _ => rfl
  have FR : FunD K "__init__" "Ratio.__init__" (defArgs s_Ratio_D_initD_) (defBody s_Ratio_D_initD_) (defScope s_Ratio_D_initD_) [.int 1] [] fR _ :=
    ⟨⟨_, _, _, _, _, _, _, _, _, _, rfl, lR, cR, .inr ⟨(fun z => nomatch z), TR, _, [.int 1 t0], nT, rfl, lT0, rfl, .cons ⟨_, rfl⟩ .nil⟩, .inl rfl⟩, kR⟩
  obtain ⟨ds1, v1, b1⟩ := FR.binds1 (ps := ["self", "top", "bottom"]) 2 0 (fun z => nomatch z) rfl (fun T kV doc pm an cdv ct us its h1 h2 => match us, its, h1, h2 with | [_, _], [_], _, _ => ⟨_, rfl, rfl⟩)
  obtain ⟨ds2, v2, b2⟩ := FR.binds1 (ps := ["self", "top", "bottom"]) 3 1 (fun z => nomatch z) rfl (fun T kV doc pm an cdv ct us its h1 h2 => match us, its, h1, h2 with | [_, _, _], [_], _, _ => ⟨_, rfl, rfl⟩)
  cases v2
  have kC : Cls K C := ⟨pgC, hdC, poC, saC⟩
  have xE : OexC K CE := ⟨⟨_, _, _, _, _, _, _, _, _, _, _, _, _, _, _, xCE, xrCE⟩, xsCE, xeCE, xtCE, xkCE⟩
  have er : ErrC K mg "InvalidNumber" "given" CE fE := ⟨xE, aE, tE, PySem.W.mg_of X G aCE, nCE_code, nCE_given, ⟨xgCE, xaCE, xeCE, xhCE⟩⟩
  have RC : RatC K mg C CE fE fWh fNu fRo := { cl := kC, nT := nC_top, nB := nC_bottom, tyi := fun H a dx fs e => .base (.ins e kC haC hn htk hmC), kd := fun d => (match d with | .none => kd_NoneType | .bool _ => kd_bool | .int _ => kd_int | .str _ => kd_str | .list _ => kd_list | .tuple _ => kd_tuple | .dict _ => kd_dict), ki := ki, g_Ratio := PySem.W.mg_of X G aC, g_whole := PySem.W.mg_of X G aWh, k_whole := kWh, g_number := PySem.W.mg_of X G aNu, k_number := kNu, g_rof := PySem.W.mg_of X G aRo, k_rof := kRo, gcd := PySem.W.mg_of X G gcd, isinstance := PySem.W.mg_none_of X G z_isinstance, int := PySem.W.mg_none_of X G z_int, bool := PySem.W.mg_none_of X G z_bool, abs := PySem.W.mg_none_of X G z_abs, x_InvalidNumber := xE, i_InvalidNumber := aE, t_InvalidNumber := tE, g_InvalidNumber := PySem.W.mg_of X G aCE }
  have MR : Mk K C fR := ⟨mkC, aR, iR, kcC⟩
  have FA := fun_mk (st := s_Ratio_D_addD_) lA cA kA
  have bA := FA.binds (ps := ["self", "other"]) fun _ _ _ _ _ _ us hl => match us, hl with | [_, _], _ => rfl
  have FrA := fun_mk (st := s_Ratio_D_raddD_) lrA crA krA
  have brA := FrA.binds (ps := ["self", "other"]) fun _ _ _ _ _ _ us hl => match us, hl with | [_, _], _ => rfl
  have FSu := fun_mk (st := s_Ratio_D_subD_) lSu cSu kSu
  have bSu := FSu.binds (ps := ["self", "other"]) fun _ _ _ _ _ _ us hl => match us, hl with | [_, _], _ => rfl
  have FrS := fun_mk (st := s_Ratio_D_rsubD_) lrS crS krS
  have brS := FrS.binds (ps := ["self", "other"]) fun _ _ _ _ _ _ us hl => match us, hl with | [_, _], _ => rfl
  have FMu := fun_mk (st := s_Ratio_D_mulD_) lMu cMu kMu
  have bMu := FMu.binds (ps := ["self", "other"]) fun _ _ _ _ _ _ us hl => match us, hl with | [_, _], _ => rfl
  have FrM := fun_mk (st := s_Ratio_D_rmulD_) lrM crM krM
  have brM := FrM.binds (ps := ["self", "other"]) fun _ _ _ _ _ _ us hl => match us, hl with | [_, _], _ => rfl
  have FNe := fun_mk (st := s_Ratio_D_negD_) lNe cNe kNe
  have bNe := FNe.binds (ps := ["self"]) fun _ _ _ _ _ _ us hl => match us, hl with | [_], _ => rfl
  have FAb := fun_mk (st := s_Ratio_D_absD_) lAb cAb kAb
  have bAb := FAb.binds (ps := ["self"]) fun _ _ _ _ _ _ us hl => match us, hl with | [_], _ => rfl
  have RO : RatO K mg C CE fE fWh fNu fRo fA frA fSu frS fMu frM fNe fAb := { toRatC := RC, o_add := ⟨sf, aA, iA, arA, irA, s1, s2⟩, o_sub := ⟨sf, aSu, iSu, arS, irS, s1, s2⟩, o_mul := ⟨sf, aMu, iMu, arM, irM, s1, s2⟩, s_neg := ⟨aNe, iNe⟩, s_abs := ⟨aAb, iAb⟩, i_add := t_add, ir_add := tr_add, i_sub := t_sub, ir_sub := tr_sub, i_mul := t_mul, ir_mul := tr_mul }
  have FBa := fun_mk (st := s_L_bag) lBa cBa kBa
  have bBa := FBa.binds (ps := ["_law_script"]) fun _ _ _ _ _ _ us hl => match us, hl with | [_], _ => rfl
  have FP := fun_mk (st := s_L_pull) lP cP kP
  have bP := FP.binds (ps := ["_law_bag_here", "_law_many"]) fun _ _ _ _ _ _ us hl => match us, hl with | [_, _], _ => rfl
  have FOf := fun_mk (st := s_L_of) lOf cOf kOf
  have bOf := FOf.binds (ps := ["_law_bag_here", "_law_things"]) fun _ _ _ _ _ _ us hl => match us, hl with | [_, _], _ => rfl
  have FF := fun_mk (st := s_L_field) lF cF kF
  have bF := FF.binds (ps := ["_law_e"]) fun _ _ _ _ _ _ us hl => match us, hl with | [_], _ => rfl
  have FX := fun_mk (st := s_L_other_field) lX cX kX
  have bX := FX.binds (ps := ["_law_e"]) fun _ _ _ _ _ _ us hl => match us, hl with | [_], _ => rfl
  have FW := fun_mk (st := s_L_why) lW cW kW
  have bW := FW.binds (ps := ["_law_ask"]) fun _ _ _ _ _ _ us hl => match us, hl with | [_], _ => rfl
  have FLo := fun_mk (st := s_L_low) lLo cLo kLo
  have bLo := FLo.binds (ps := ["_law_top", "_law_bottom"]) fun _ _ _ _ _ _ us hl => match us, hl with | [_, _], _ => rfl
  have FSm := fun_mk (st := s_L_small) lSm cSm kSm
  have bSm := FSm.binds (ps := ["_law_bag_here"]) fun _ _ _ _ _ _ us hl => match us, hl with | [_], _ => rfl
  have FLr := fun_mk (st := s_L_ratio) lLr cLr kLr
  have bLr := FLr.binds (ps := ["_law_pair_here"]) fun _ _ _ _ _ _ us hl => match us, hl with | [_], _ => rfl
  have FPl := fun_mk (st := s_L_plus) lPl cPl kPl
  have bPl := FPl.binds (ps := ["_law_one", "_law_other"]) fun _ _ _ _ _ _ us hl => match us, hl with | [_, _], _ => rfl
  have FCr := fun_mk (st := s_L_cross) lCr cCr kCr
  have bCr := FCr.binds (ps := ["_law_one", "_law_other"]) fun _ _ _ _ _ _ us hl => match us, hl with | [_, _], _ => rfl
  have FPa := fun_mk (st := s_L_pair) lPa cPa kPa
  have bPa := FPa.binds (ps := ["_law_found"]) fun _ _ _ _ _ _ us hl => match us, hl with | [_], _ => rfl
  have FOv := fun_mk (st := s_Ratio_over) lOv cOv kOv
  have bOv := FOv.binds (ps := ["self", "other"]) fun _ _ _ _ _ _ us hl => match us, hl with | [_, _], _ => rfl
  have FQ := fun_mk (st := s_Ratio_D_eqD_) lQ cQ kQ
  have bQ := FQ.binds (ps := ["self", "other"]) fun _ _ _ _ _ _ us hl => match us, hl with | [_, _], _ => rfl
  have kbOv : KBn K _ ["self", "other"] 1 ["other"] (fun us ws => us ++ ws) (fun vs zs => vs ++ zs) := ⟨fun s us ws _ l1 l2 => (match us, ws, l1, l2 with | [_], [_], _, _ => .of_eq rfl : BindsTo s (PySem.W.fnOf "over" "Ratio.over" (defArgs s_Ratio_over) (defBody s_Ratio_over) (defScope s_Ratio_over) .none kVOv dcOv pmOv anOv cdOv ctOv) ⟨us, (["other"] : List Str).zip ws⟩ ((["self", "other"] : List Str).zip (us ++ ws))), fun r1 r2 => r1.append r2⟩
  have TL : TxtL mg := ⟨PySem.W.mg_none_of X G z_len, PySem.W.mg_none_of X G z_abs, PySem.W.mg_none_of X G z_int, PySem.W.mg_none_of X G z_list⟩
  have TQ : TxtQ K mg C CE fE fWh fNu fRo fP fLo := { toRatC := RC, g_pull := PySem.W.mg_of X G aP, k_pull := kP, g_low := PySem.W.mg_of X G aLo, k_low := kLo }
  have TW : TxtW K mg CS CM fF := ⟨PySem.W.mg_of X G aCS, PySem.W.mg_of X G aCM, PySem.W.mg_of X G aF, kF⟩
  have hTab : h.get? Pt = some { cls := .none, data := .fields #[] } := own cz Pt _ _ _ _ _ _ lL rfl rfl lc vc
  refine ⟨PySem.W.fnOf "law" "law" (defArgs s_law) (defBody s_law) (defScope s_law) .none kVL dcL pmL anL (.ref cz) ctL, [(cz, Pt)], spLaw K Pt, fun p hp => ?_, fun p hp => ?_, fun p hp => ?_, fun s u => .of_eq rfl, fun H a ns _ _ hT hS => ?_, fun base KB GB TB => ?_⟩
  · cases hp with
    | head => exact hTab
    | tail _ z => cases z
  · cases hp with
    | head => exact nP
    | tail _ z => cases z
  · cases hp with
    | head => exact PySem.W.codeHd_of_K X ch
    | tail _ z => cases z
  · exact ⟨a, ns, rfl, hS, hT _ (List.Mem.head _), fun _ => rfl⟩
  · have GWh := ok_whole (P := l.prog) (w := w) (base := base) FWh RC
    have GNu := ok_number (P := l.prog) (w := w) (base := base) FNu RC GWh bWh
    have GE := ok_InvalidNumber (P := l.prog) (w := w) (base := base) (C := CE) FE er
    have GR := ok_Ratio (P := l.prog) (w := w) (base := base) FR RC GWh bWh GE bE
    have GRo := ok_rof (P := l.prog) (w := w) (base := base) FRo RC GWh bWh GE bE MR GR ⟨v1, b1⟩
    have GNe := ok_neg (P := l.prog) (w := w) (base := base) FNe RC MR GR b2
    have GAb := ok_abs (P := l.prog) (w := w) (base := base) FAb RC MR GR b2
    have GA := ok_add (P := l.prog) (w := w) (base := base) FA RC GNu bNu GRo bRo MR GR b2
    have GMu := ok_mul (P := l.prog) (w := w) (base := base) FMu RC GNu bNu GRo bRo MR GR b2
    have GrA := ok_radd (P := l.prog) (w := w) (base := base) FrA RO GA bA
    have GrM := ok_rmul (P := l.prog) (w := w) (base := base) FrM RO GMu bMu
    have GSu := ok_sub (P := l.prog) (w := w) (base := base) FSu RO GNu bNu GRo bRo GA bA GNe bNe
    have GrS := ok_rsub (P := l.prog) (w := w) (base := base) FrS RO GNu bNu GRo bRo GA bA GNe bNe
    have GP := ok_pull (P := l.prog) (w := w) (base := base) FP TL
    have GLo := ok_low (P := l.prog) (w := w) (base := base) FLo TQ
    have TK : TxtK K mg C CE fE fWh fNu fRo fA frA fSu frS fMu frM fNe fAb fBa fP fOf fLo fSm fLr fPl fCr fPa fW fQ fOv CS CM fF ocW odW anW kVW dcW pmW cdW ctW slW :=
      { toRatO := RO, tw := TW, range := PySem.W.mg_none_of X G z_range, g_bag := PySem.W.mg_of X G aBa, k_bag := kBa, g_pull := PySem.W.mg_of X G aP, k_pull := kP, g_of := PySem.W.mg_of X G aOf, k_of := kOf, g_low := PySem.W.mg_of X G aLo, k_low := kLo, g_small := PySem.W.mg_of X G aSm, k_small := kSm, g_lratio := PySem.W.mg_of X G aLr, k_lratio := kLr, g_plus := PySem.W.mg_of X G aPl, k_plus := kPl, g_cross := PySem.W.mg_of X G aCr, k_cross := kCr, g_pair := PySem.W.mg_of X G aPa, k_pair := kPa, g_why := PySem.W.mg_of X G aW, k_why := kW, l_why := lW, c_why := cW, s_eq := ⟨aQ, iQ⟩, ne := ne, mro := hmC, m_over := ⟨aOv, iOv, kOv⟩, er := er, em := em }
    exact ok_law lL cL (TB _ (List.Mem.head _)) TK (ok_bag FBa TL) bBa GP bP (ok_of FOf ⟨PySem.W.mg_none_of X G z_len, PySem.W.mg_of X G aP, kP⟩ GP bP) bOf GLo bLo (ok_small FSm TQ GP bP) bSm (ok_lratio FLr RC MR GR b2) bLr (ok_plus FPl TQ GLo bLo) bPl (ok_cross FCr TQ GLo bLo) bCr (ok_pair_ FPa RC) bPa
      (ok_rateq FQ RC GNu bNu GRo bRo) bQ (ok_over FOv RC GNu bNu GRo bRo GE bE MR GR b2) bOv kbOv GA bA GrA brA GSu bSu GrS brS GMu bMu GrM brM GNe bNe GAb bAb (ok_field FF ⟨PySem.W.mg_of X G aX, kX⟩ (ok_other FX) bX) bF MR GR ⟨v1, b1⟩ bW
theorem walk {l : PySem.W.OpenLaw} {q : Program} {loose : List Str} {XP : (Str → Option Value) → Heap → Prop} {YP : World → Heap → Prop} {d : DefRec} {K : Params → PySem.W.Frag} (hn : l.most = some 63) (hdf : d.params.defaults = []) (hrec : ((recsOf q).any fun e => e.name == d.name) = true)
    (hY : ∀ (w : World) (h : Heap), YP w h → (K w.params).In h)
    (F : ∀ (w : World) (mg : Str → Option Value) (fa : Addr) (h : Heap), (K w.params).In h → h.Ns mainGlobals mg → mg d.name = some (.ref fa) → LamX.OwnTab (K w.params) fa h → LamX.LawAtS l w (K w.params) CX0 9 63 "_law_script" mg fa h) :
    PySem.W.WalkO q loose XP YP l.row.toRowW d [] (fun f vs => PySem.call f vs) :=
  LamX.walk_ofOwn (n := 63) (k := 9) (x := "_law_script") (CX := fun _ => CX0) hn (by decide) hdf ⟨rfl, by decide, by decide⟩ hrec hY (fun w mg fa h _ KX G hm own => F w mg fa h KX G hm own) fun _ _ _ _ _ z => z
end Mine

open PySem PySem.W PyProof.Rows
set_option maxRecDepth 100000 in
set_option maxHeartbeats 0 in
theorem PySem.Challenge.cw_unseenslopes_k03_ratios_reckoned_holds : PySem.Challenge.rw_unseenslopes_k03_ratios_reckoned.Holds := by
  w_on; o_law; k_head; (case hw => w_witness2)
  k_fill
  refine Mine.walk (l := PySem.Challenge.rw_unseenslopes_k03_ratios_reckoned) rfl rfl (by decide +kernel) (fun w h Y => by first | exact PySem.W.kIn_of Y | exact PySem.W.km_in_of Y) ?F
  case F =>
    intro w mg fa h KX G hmg own
    refine' Mine.all_mk KX G hmg own ?aL ?lL ?cL ?kL ?lc ?vc ?ch ?nP ?aC ?aCE ?aCS ?aCM ?aWh ?lWh ?cWh ?kWh ?aNu ?lNu ?cNu ?kNu ?aRo ?lRo ?cRo ?kRo ?aE ?lE ?cE ?kE ?tE ?aR ?lR ?cR ?kR ?iR ?lT0 ?pgC ?hdC ?poC ?saC ?mkC ?kcC ?haC ?hmC ?nC_top ?nC_bottom ?hn ?htk ?kd_NoneType ?kd_bool ?kd_int ?kd_str ?kd_list ?kd_tuple ?kd_dict ?ki ?gcd ?xCE ?xrCE ?xsCE ?xeCE ?xtCE ?xkCE ?xgCE ?xaCE ?xhCE ?nCE_code ?nCE_given ?em ?sf ?s1 ?s2 ?aA ?lA ?cA ?kA ?arA ?lrA ?crA ?krA ?iA ?irA ?t_add ?tr_add ?aSu ?lSu ?cSu ?kSu ?arS ?lrS ?crS ?krS ?iSu ?irS ?t_sub ?tr_sub ?aMu ?lMu ?cMu ?kMu ?arM ?lrM ?crM ?krM ?iMu ?irM ?t_mul ?tr_mul ?aNe ?lNe ?cNe ?kNe ?aAb ?lAb ?cAb ?kAb ?iNe ?iAb ?aOv ?lOv ?cOv ?kOv ?iOv ?aQ ?lQ ?cQ ?kQ ?iQ ?ne ?aBa ?lBa ?cBa ?kBa ?aP ?lP ?cP ?kP ?aOf ?lOf ?cOf ?kOf ?aF ?lF ?cF ?kF ?aX ?lX ?cX ?kX ?aW ?lW ?cW ?kW ?aLo ?lLo ?cLo ?kLo ?aSm ?lSm ?cSm ?kSm ?aLr ?lLr ?cLr ?kLr ?aPl ?lPl ?cPl ?kPl ?aCr ?lCr ?cCr ?kCr ?aPa ?lPa ?cPa ?kPa ?z_len ?z_abs ?z_int ?z_list ?z_isinstance ?z_bool ?z_range
    (case aL => k_is)
    (case lL => k_is)
    (case cL => k_is)
    (case kL => k_is)
    (case lc => k_is)
    (case vc => rfl)
    (case ch => kernel_rfl)
    (case nP => kernel_rfl)
    (case aC => k_is)
    (case aCE => k_is)
    (case aCS => k_is)
    (case aCM => k_is)
    (case aWh => k_is)
    (case lWh => k_is)
    (case cWh => k_is)
    (case kWh => k_is)
    (case aNu => k_is)
    (case lNu => k_is)
    (case cNu => k_is)
    (case kNu => k_is)
    (case aRo => k_is)
    (case lRo => k_is)
    (case cRo => k_is)
    (case kRo => k_is)
    (case aE => k_is)
    (case lE => k_is)
    (case cE => k_is)
    (case kE => k_is)
    (case tE => k_is)
    (case aR => k_is)
    (case lR => k_is)
    (case cR => k_is)
    (case kR => k_is)
    (case iR => k_is)
    (case lT0 => k_is)
    (case pgC => k_is)
    (case hdC => k_is)
    (case poC => k_is)
    (case saC => k_is)
    (case mkC => k_is)
    (case kcC => k_is)
    (case haC => k_is)
    (case hmC => k_is)
    (case nC_top => k_is)
    (case nC_bottom => k_is)
    (case hn => k_is)
    (case htk => k_is)
    (case kd_NoneType => kernel_rfl)
    (case kd_bool => kernel_rfl)
    (case kd_int => kernel_rfl)
    (case kd_str => kernel_rfl)
    (case kd_list => kernel_rfl)
    (case kd_tuple => kernel_rfl)
    (case kd_dict => kernel_rfl)
    (case ki => kernel_rfl)
    (case gcd => k_is)
    (case xCE => k_is)
    (case xrCE => kernel_rfl)
    (case xsCE => k_is)
    (case xeCE => k_is)
    (case xtCE => k_is)
    (case xkCE => k_is)
    (case xgCE => k_is)
    (case xaCE => k_is)
    (case xhCE => k_is)
    (case nCE_code => k_is)
    (case nCE_given => k_is)
    (case em => kernel_rfl)
    (case sf => k_is)
    (case s1 => k_is)
    (case s2 => k_is)
    (case aA => k_is)
    (case lA => k_is)
    (case cA => k_is)
    (case kA => k_is)
    (case arA => k_is)
    (case lrA => k_is)
    (case crA => k_is)
    (case krA => k_is)
    (case iA => k_is)
    (case irA => k_is)
    (case t_add => k_is)
    (case tr_add => k_is)
    (case aSu => k_is)
    (case lSu => k_is)
    (case cSu => k_is)
    (case kSu => k_is)
    (case arS => k_is)
    (case lrS => k_is)
    (case crS => k_is)
    (case krS => k_is)
    (case iSu => k_is)
    (case irS => k_is)
    (case t_sub => k_is)
    (case tr_sub => k_is)
    (case aMu => k_is)
    (case lMu => k_is)
    (case cMu => k_is)
    (case kMu => k_is)
    (case arM => k_is)
    (case lrM => k_is)
    (case crM => k_is)
    (case krM => k_is)
    (case iMu => k_is)
    (case irM => k_is)
    (case t_mul => k_is)
    (case tr_mul => k_is)
    (case aNe => k_is)
    (case lNe => k_is)
    (case cNe => k_is)
    (case kNe => k_is)
    (case aAb => k_is)
    (case lAb => k_is)
    (case cAb => k_is)
    (case kAb => k_is)
    (case iNe => k_is)
    (case iAb => k_is)
    (case aOv => k_is)
    (case lOv => k_is)
    (case cOv => k_is)
    (case kOv => k_is)
    (case iOv => k_is)
    (case aQ => k_is)
    (case lQ => k_is)
    (case cQ => k_is)
    (case kQ => k_is)
    (case iQ => k_is)
    (case ne => k_is)
    (case aBa => k_is)
    (case lBa => k_is)
    (case cBa => k_is)
    (case kBa => k_is)
    (case aP => k_is)
    (case lP => k_is)
    (case cP => k_is)
    (case kP => k_is)
    (case aOf => k_is)
    (case lOf => k_is)
    (case cOf => k_is)
    (case kOf => k_is)
    (case aF => k_is)
    (case lF => k_is)
    (case cF => k_is)
    (case kF => k_is)
    (case aX => k_is)
    (case lX => k_is)
    (case cX => k_is)
    (case kX => k_is)
    (case aW => k_is)
    (case lW => k_is)
    (case cW => k_is)
    (case kW => k_is)
    (case aLo => k_is)
    (case lLo => k_is)
    (case cLo => k_is)
    (case kLo => k_is)
    (case aSm => k_is)
    (case lSm => k_is)
    (case cSm => k_is)
    (case kSm => k_is)
    (case aLr => k_is)
    (case lLr => k_is)
    (case cLr => k_is)
    (case kLr => k_is)
    (case aPl => k_is)
    (case lPl => k_is)
    (case cPl => k_is)
    (case kPl => k_is)
    (case aCr => k_is)
    (case lCr => k_is)
    (case cCr => k_is)
    (case kCr => k_is)
    (case aPa => k_is)
    (case lPa => k_is)
    (case cPa => k_is)
    (case kPa => k_is)
    (case z_len => k_is)
    (case z_abs => k_is)
    (case z_int => k_is)
    (case z_list => k_is)
    (case z_isinstance => k_is)
    (case z_bool => k_is)
    (case z_range => k_is)

