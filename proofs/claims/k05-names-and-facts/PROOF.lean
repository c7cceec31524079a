import PyProof.Rows.All
import Wide.All
import OpenK.AllK
import Wide.FinOn
import HandS.ForMost
import HandS.Evl
import HandS.Exc
import HandS.ExcField
import HandS.WordsExc
import HandS.HotCalls
import HandS.IsInst
import HandS.FStr
import HandS.ClsMeth
import HandS.Deep
import KE.KCallOwn
import KE.KFmtOwn
import HandS.Wide
import HandS.Gcd
import KE.KOpsOwn
import HandS.Defaults
import HandS.MakeKwOnly
import HandS.Zip
import HandS.Walk
import HandS.ExcInit
import HandS.Lambda
import HandS.Text
import HandS.RaiseMore
import HandS.Style
import PySem.Challenge.RW_unseenslopes_k05_names_and_facts
import HandS.Iter
import HandS.Property
import PyProof.Rows.ReprOcc
import HandS.Ends
import KE.KNestM
set_option Elab.async false
set_option linter.all false
set_option maxRecDepth 100000
set_option maxHeartbeats 4000000
namespace Mine
open PySem PySem.Spec PyProof.Rows L2
/-! ### clauses «except t as n», t any expression whose match is known -/
theorem fly_ext {B h h' : Heap} {l : List Env} {a : Addr} {Z : Obj → Prop} (k : ∀ b o, h.get? b = some o → h'.get? b = some o) (f : HandSPX.FlyingZ B l a Z h) : HandSPX.FlyingZ B l a Z h' := by
  obtain ⟨f1, f2, f3, oe, vs, T, oT, ts, h1, h2, h3, h4, h5, h6, h7, h8⟩ := f
  exact ⟨fun b o e => k b o (f1 b o e), f2, f3.of_keeps fun b o e _ => ⟨o, k b o e, rfl⟩, oe, vs, T, oT, ts, k _ _ h1, h2, h3, h4, h5, h6, k _ _ h7, h8⟩
theorem slots_ext {h h' : Heap} (k : ∀ b o, h.get? b = some o → h'.get? b = some o) : h.UpToSlots h' := fun b o e _ => ⟨o.slots, k b o e⟩
/-- the test of a clause: t is evaluated while a is handled, and its match with a is m of a's class -/
def ExcTest (X : Cx) (t : Expr) (m : Value → Option Bool) : Prop :=
  ∀ (a : Addr) (pn pins : List (Addr × Obj)) (s : Shared) (σ : L2.St) (H : Hp) (cls : Value) (b : Bool) (Q : Bool → Shared → Prop) (E : Value → Shared → Prop), Inv (X.suite a pn) pins σ H s →
    PySem.W.Looks (model X.prog X.w) s.heap (typeOf (.ref a)) cls → m cls = some b → (∀ h', (∀ q o, s.heap.get? q = some o → h'.get? q = some o) → Q b { s with heap := h' }) →
    wpAny (model X.prog X.w) (X.A.mark (some (.ref a))) (eval t X.env) (fun c s₁ => wpAny (model X.prog X.w) (X.A.mark (some (.ref a))) (excMatches (.ref a) c) Q E s₁) E s
theorem name_in {X : Cx} {x : Str} {c : Value} {np : Pos} (n : Names X x c) {a : Addr} {pn pins : List (Addr × Obj)} {s : Shared} {σ : L2.St} {H : Hp} (I : Inv (X.suite a pn) pins σ H s) {Q : Value → Shared → Prop} {E : Value → Shared → Prop} (q : Q c s) :
    wpAny (model X.prog X.w) (X.A.mark (some (.ref a))) (eval (.Name x np) X.env) Q E s := by
  obtain ⟨h1, h2, h3⟩ := n
  rcases h3 with h3 | ⟨h3, h4, h5⟩
  · exact ld_glob I h1 h3 q h2
  · exact ld_blt I h1 h3 h4 q h5 h2
theorem test1 {X : Cx} {x : Str} {c : Value} {np : Pos} (n : Names X x c) : ExcTest X (.Name x np) (fun cls => PySem.W.exmOne X.K cls c) := by
  intro a pn pins s σ H cls b Q E I L e q
  exact name_in n I ((PySem.W.exm_one I.kIn L e).here (q s.heap fun _ _ z => z))
theorem test2 {X : Cx} {x1 x2 : Str} {c1 c2 : Value} {p1 p2 p3 : Pos} {kk : Nat} (n1 : Names X x1 c1) (n2 : Names X x2 c2) : ExcTest X (.Tuple [.Name x1 p1, .Name x2 p2] kk p3) (fun cls => PySem.W.exmAny X.K cls [c1, c2]) := by
  intro a pn pins s σ H cls b Q E I L e q
  refine wpAny_Tuple (wpAny_items_cons (name_in n1 I (wpAny_items_cons (name_in n2 I (wpAny_items_nil ⟨by size_fits, ?_⟩)))))
  have kp : ∀ y o, s.heap.get? y = some o → (s.heap.push { cls := .type "tuple", data := .seq [c1, c2].toArray }).get? y = some o := fun _ _ z => Heap.get?_push_of_some _ z
  exact (PySem.W.exm_tup2 (I.kIn.keeps kp) (L.keeps kp) (Heap.get?_push_size s.heap rfl) e).here (q _ kp)
/-- what a clause asks: the match, its name's slot, its suite -/
structure Clause where
  m : Value → Option Bool
  i : Nat
  ts : Addr → Value → Option Addr → TS
def unname (D : Ends) (i : Nat) : Ends := ⟨fun σ H => D.nx (σ.set i none) H, D.rt, fun σ H => D.bk (σ.set i none) H, fun σ H => D.ct (σ.set i none) H⟩
def wClauses (Wout : WX) (D : Ends) : List Clause → WX
  | [] => Wout
  | c :: r => fun cls d σ H => ∃ b, c.m cls = some b ∧ (b = true → ∀ a, H a = none → c.ts a cls d (unname D c.i) (σ.set c.i (some (.ref a))) H) ∧ (b = false → wClauses Wout D r cls d σ H)
inductive ClausesOk (X : Cx) : List ExceptHandler → List Clause → Prop
  | nil : ClausesOk X [] []
  | cons {t : Expr} {n : Str} {c : Clause} {b₀ : Stmt} {suite : List Stmt} {hp : Pos} {hds : List ExceptHandler} {l : List Clause} (ht : ExcTest X t c.m) (hi : X.N[c.i]? = some n) (hl : X.env.kindOf n = some .local)
      (hsu : ∀ (a : Addr) (oe : Obj) (cls : Value) (d : Option Addr) (pn : List (Addr × Obj)), Zc cls d oe → (∃ vs, oe.data = .fields vs) → PSs (X.suite a ((a, oe) :: pn)) (b₀ :: suite) (c.ts a cls d)) (r : ClausesOk X hds l) :
      ClausesOk X (.ExceptHandler (some t) (some n) (b₀ :: suite) hp :: hds) (c :: l)
section
variable {X : Cx} {pins : List (Addr × Obj)} {Wout : WX} {D : Ends}
/-- a thrown exception on the ground at h meets the clauses -/
theorem meet_clauses (hs : X.stack = X.env :: X.outer) (hf : X.env.frame = some X.env.locals) (hN : X.N.Nodup) (tk : Takes X Wout) {a : Addr} {B : Heap} {sI : Shared} {σ : L2.St} {H : Hp} {cls : Value} {d : Option Addr}
    (J : Inv X pins σ H sI) (nb : ∀ b o, sI.heap.get? b = some o → b ∉ frs X.stack → B.get? b = some o) (na : H a = none) {hds : List ExceptHandler} {l : List Clause} (ok : ClausesOk X hds l) :
    ∀ (s : Shared), HandSPX.FlyingZ B (X.env :: X.outer) a (Zc cls d) s.heap → sI.heap.UpToSlots s.heap → s.os = sI.os → AllBare s.gens → wClauses Wout D l cls d σ H →
      wpAny (model X.prog X.w) X.A (handleBy (.ref a) X.env hds) (SP X pins D) X.xe s := by
  induction ok with
  | nil =>
    intro s fl up os ag hw
    refine wpAny_handleBy_nil ?_
    obtain ⟨_, _, _, oe, vs, T, oT, ts', he, _, hd, h1, _⟩ := id fl
    have go : wpAny (model X.prog X.w) X.A (setFlight (.ref a) X.env.frame) (fun _ s4 => wpAny (model X.prog X.w) X.A (throw (.ref a) : Sem Flow) (SP X pins D) X.xe s4) X.xe s := by
      rw [hf]
      exact HandSPX.setFlight_upZ fl fun h4 hh4 up4 => wpAny_throw (tk _ _ ⟨a, B, sI, pins, σ, H, cls, d, rfl, J, nb, up.trans up4, .inr (.inr (by rw [hs]; exact hh4)), na, os, ag, hw⟩)
    unfold PySem.passOn
    refine wpAny_bind (wpAny_field he hd h1 ?_)
    rw [if_neg (show ¬ ((Value.ref T == Value.none) = true) by simp)]
    first
      | exact wpAny_bind (wpAny_pure (wpAny_bind go))
      | exact wpAny_bind go
  | @cons t n c b₀ suite hp hds' l' ht hi hl hsu _ ih =>
    intro s fl up os ag hw
    obtain ⟨b, hb, yes, no⟩ := hw
    have J1 : Inv X pins σ H s := J.landed nb fl.1 up os ag
    have away : ∀ {h : Heap} {o : Obj} {vs : Array Value}, h.FunFrames B (X.env :: X.outer) → h.get? a = some o → o.data = .fields vs → a ≠ X.env.locals ∧ a ∉ X.fs := by
      intro h o vs ff e dd
      have nm : a ∉ frs (X.env :: X.outer) := by
        intro hm
        obtain ⟨_, o', e', hnf⟩ := ff.mem hm
        rw [e] at e'
        cases e'
        exact hnf _ dd
      refine ⟨fun z => nm (List.mem_filterMap.mpr ⟨X.env, List.mem_cons_self, by rw [hf, z]⟩), fun hm => ?_⟩
      obtain ⟨e2, he2, q⟩ := List.mem_filterMap.mp hm
      exact nm (List.mem_filterMap.mpr ⟨e2, List.mem_cons_of_mem _ he2, q⟩)
    obtain ⟨oe, vs, he, hz, hd⟩ := fl.there
    obtain ⟨nL, nF⟩ := away fl.2.2.1 he hd
    have S1 := J1.suite he hd na nL nF
    refine wpAny_handleBy_cons (codeAny_handlers_test ?_) (fun q => nomatch q)
    have LT : PySem.W.Looks (model X.prog X.w) s.heap (typeOf (.ref a)) cls := fun A Q E s' k q => wpAny_typeOf_ref (k _ _ he) (by rw [hz.1]; exact q)
    refine ht a _ [] s σ H cls b _ _ S1 LT hb fun h2 k2 => ?_
    have fl2 := fly_ext k2 fl
    have up2 : sI.heap.UpToSlots h2 := up.trans (slots_ext k2)
    cases b with
    | false => exact ih { s with heap := h2 } fl2 up2 os ag (no rfl)
    | true =>
      refine codeAny_handlers_suite_as (HandSPX.lands_againZ fl2 fun h4 fl4 up4 => ?_)
      have J4 : Inv X pins σ H { s with heap := h4 } := J.landed nb fl4.1 (up2.trans up4) os ag
      obtain ⟨oe4, vs4, he4, hz4, hd4⟩ := fl4.there
      have S4 := J4.suite he4 hd4 na nL nF
      refine store_ok (X := X.suite a ((a, oe4) :: (X.pn ++ pins))) (v := .ref a) S4 hN hi (.inl hl) rfl (fun s5 S5 => ?_) (.inr hl)
      refine wpAny_mono ((hsu a oe4 cls d (X.pn ++ pins) hz4 ⟨_, hd4⟩).run [] s5 _ H _ S5 (yes rfl a na)) (fun f s6 q6 => ?_) (fun _ _ z => z.elim)
      have back : ∀ {σ6 : L2.St} {H6 : Hp} {R : Shared → Prop}, Inv (X.suite a ((a, oe4) :: (X.pn ++ pins))) [] σ6 H6 s6 → (∀ s7, Inv X pins (σ6.set c.i none) H6 s7 → R s7) →
          wpAny (model X.prog X.w) X.A (do bindName X.env n .none; unbindBehindTheSuite X.env n hp) (fun _ s7 => R s7) X.xe s6 := fun S6 r => gone_ok (S6.unsuite J.ok) hN hi hl r
      cases f with
      | next =>
        obtain ⟨σ6, H6, S6, r6⟩ := q6
        exact back S6 fun s7 J7 => ⟨_, _, J7, r6⟩
      | brk =>
        obtain ⟨σ6, H6, S6, r6⟩ := q6
        exact back S6 fun s7 J7 => ⟨_, _, J7, r6⟩
      | cont =>
        obtain ⟨σ6, H6, S6, r6⟩ := q6
        exact back S6 fun s7 J7 => ⟨_, _, J7, r6⟩
      | ret u =>
        obtain ⟨v6, σ6, H6, S6, rv, r6⟩ := q6
        exact back S6 fun s7 J7 => ⟨_, _, _, J7, rv, r6⟩
/-- try: body, several clauses «except t as n: suite» -/
theorem ps_clauses {body : List Stmt} {h₀ : ExceptHandler} {hds : List ExceptHandler} {l : List Clause} {pos : Pos} {tb : WX → TS} (hs : X.stack = X.env :: X.outer) (hf : X.env.frame = some X.env.locals) (hN : X.N.Nodup) (tk : Takes X Wout)
    (hb : ∀ (W : WX) (pn : List (Addr × Obj)) (xe : Value → Shared → Prop), Takes (X.tr pn xe) W → PassesOwn (model X.prog X.w) X.A X.env xe → PSs (X.tr pn xe) body (tb W)) (hh : ClausesOk X (h₀ :: hds) l) :
    PS X (.Try body (h₀ :: hds) [] [] pos) (fun D σ H => tb (wClauses Wout D l) D σ H) := by
  refine ⟨fun pins s σ H D I h => ?_⟩
  have ok := I.ok
  have fr : X.A.frames = some (X.env :: X.outer) := by rw [ok.frames, hs]
  refine wpAny_Try_except ?_
  refine wpAny_mono ((hb (wClauses Wout D l) (X.pn ++ pins) _ (fun u s' xx => ?_) PassesOwn.looking).run [] s σ H D (I.toTry _) h) (fun f s1 q => ?_) (fun e s1 he => he)
  · obtain ⟨a, B, sI, pins', σ', H', cls, d, rfl, J', nb, up, sky, na, os, ag, hw⟩ := xx
    have sky' : Sky B (X.env :: X.outer) a (Zc cls d) X.env.locals s'.heap := by rw [← hs]; exact sky
    exact Sky.land Zc.steady fr hf sky' fun h3 fl3 up3 => meet_clauses hs hf hN tk (J'.ofTry ok) nb na hh { s' with heap := h3 } fl3 (up.trans up3) os ag hw
  · cases f with
    | next =>
      obtain ⟨σ1, H1, J1, r⟩ := q
      exact wpAny_execs_nil ⟨σ1, H1, J1.ofTry ok, r⟩
    | brk =>
      obtain ⟨σ1, H1, J1, r⟩ := q
      exact ⟨σ1, H1, J1.ofTry ok, r⟩
    | cont =>
      obtain ⟨σ1, H1, J1, r⟩ := q
      exact ⟨σ1, H1, J1.ofTry ok, r⟩
    | ret u =>
      obtain ⟨v1, σ1, H1, J1, rv, r⟩ := q
      exact ⟨v1, σ1, H1, J1.ofTry ok, rv, r⟩
end
end Mine
namespace Mine
open PySem PySem.Spec PyProof.Rows L2
/-! ### a field of the handled exception; a def that gets it as an argument -/
def tXg (K : PySem.W.Frag) (a : Addr) (cls : Value) (d : Option Addr) (f : Str) (te : TE) : TE := fun σ H Q => te σ H fun x H1 => x = .ref a ∧ ∃ (C dd : Addr) (fs : List (Str × V)) (v : V),
  cls = .ref C ∧ XfC K C ∧ PySem.W.findIn K (.ref C) f = some none ∧ d = some dd ∧ H1 dd = some (.xd fs) ∧ fs.lookup f = some v ∧ Q v H1
theorem pe_xg {X : Cx} {p : Addr × Obj} {cls : Value} {d : Option Addr} {e : Expr} {te : TE} {pos : Pos} {n : Str} (hp : p ∈ X.pn) (hz : Zc cls d p.2) (hf : ∃ vs, p.2.data = .fields vs) (he : PE X e te)
    (hb : attributeBase e n X.env (eval e X.env) = eval e X.env := by rfl) : PE X (.Attribute e n pos) (tXg X.K p.1 cls d n te) := by
  refine ⟨fun pins s σ H Q I h => ?_⟩
  refine attr_of hb (thn (he.run pins s σ H _ I h) fun u s1 hh => ?_)
  obtain ⟨x, H1, I1, rx, rfl, C, dd, fs, v, rfl, T, hno, rfl, ea, l, q⟩ := hh
  obtain rfl : u = Value.ref p.1 := rx
  have P1 := (I1.pin p (List.mem_append_left _ hp)).1
  obtain ⟨vs, hd⟩ := hf
  obtain ⟨mA, hns, hr⟩ := (show ObjOk X.prog X.w H1 s1.heap dd (.xd fs) from I1.hok dd _ ea)
  obtain ⟨od, ho, hl⟩ := lookIn_ns hns
  obtain ⟨u, hu, ru⟩ := RelO.some_of (v := v) (o := mA n) (by rw [← l]; exact hr n)
  have J : PySem.W.InstAt s1.heap p.1 p.2 C (some od) := ⟨P1, hz.1, by unfold PySem.W.notCls; rw [hd] <;> rfl, by rw [hz.2]; exact ho⟩
  exact HandSPX.exc_get I1.kIn J T.ga T.gg T.exC (PySem.W.findObj_own T.hdC hno rfl (by rw [hl, hu])) (handed_of ru) ⟨v, H1, I1.tok _, ru, q⟩
/-- what a def promises that is called while the exception at a (its class cls, its dict d) is handled -/
abbrev SpE := Addr → Value → Option Addr → List V → Hp → VK → Prop
structure FnE (P : Program) (w : World) (K : PySem.W.Frag) (mg : Str → Option Value) (base : Heap) (k : Nat) (f : Addr) (fd : FuncData) (ps : List Str) (sp : SpE) : Prop where
  len : ∀ a cls d vs H Q, sp a cls d vs H Q → vs.length = ps.length
  run : ∀ (A : Around) (outer : List Env) (s : Shared) (H : Hp) (args : Args) (us : List Value) (vs : List V) (Q : VK) (p : Addr × Obj) (cls : Value) (d : Option Addr), L2H.RoomH k A → L2H.PinOk outer H s p → Zc cls d p.2 → (∃ ws, p.2.data = .fields ws) →
    Env0 P w K mg base A outer s H → BindsTo s fd args (ps.zip us) → Vals vs us → sp p.1 cls d vs H Q → codeAny (model P w) A (.call (.ref f) args) (CR CX0 outer P w H s Q E0) s
section
variable {P : Program} {w : World} {K : PySem.W.Frag} {mg : Str → Option Value} {base : Heap}
theorem Fun.okE {x qual : Str} {st : Stmt} {f : Addr} {fd : FuncData} {N ps : List Str} {k : Nat} {sp : SpE} (F : Fun K x qual st f fd) (S : FnScope N ps (defScope st)) (len : ∀ a cls d vs H Q, sp a cls d vs H Q → vs.length = ps.length)
    (hbody : ∀ (cdv : Value) (A : Around) (outer : List Env) (s : Shared) (H : Hp) (vs : List V) (Q : VK) (p : Addr × Obj) (cls : Value) (d : Option Addr), L2H.RoomH k (A.deeper (envOfC qual (defScope st) s.heap.objs.size f cdv)) → Zc cls d p.2 → (∃ ws, p.2.data = .fields ws) →
      sp p.1 cls d vs H Q → ∃ t, PSs (L2H.cxH CX0 P w K mg base N qual (defScope st) f cdv A outer s H E0 p) (defBody st) t ∧ t { nx := fun _ H' => Q .non H', rt := Q } (L2.start N vs) H) : FnE P w K mg base (k + 1) f fd ps sp := by
  obtain ⟨oc, od, kV, doc, pm, an, cdv, ct, osl, rfl, lk, hcd⟩ := F.ex
  refine ⟨len, ?_⟩
  intro A outer s H args us vs Q p cls d hr hpin hz hf e0 hb r hsp
  have hl := len _ _ _ _ _ _ hsp
  have keeps := fun b o e => (e0.bs b o e).1
  have KX : K.In s.heap := e0.mod.kin.keeps keeps
  have kinds : ∀ y ∈ ps.zip us, (defScope st).names.lookup y.1 = some .local ∨ ((defScope st).names.lookup y.1 = some .cell ∧ ((cellsFrom (s.heap.objs.size + 1) (defScope st).names []).lookup y.1).isSome = true) := by
    rintro ⟨n, v⟩ hy
    rcases S.par n (List.of_mem_zip hy).1 with q | q
    · exact .inl q
    · exact .inr ⟨q, PySem.W.cellsFrom_some _ _ _ (.inl q)⟩
  refine codeAny_call_function hr.depth (KX _ _ lk) rfl S.co S.gen rfl (PySem.W.codeRec_of KX hcd) (hb _ _ _ _ (wpAny_newFunctionEnv_cells S.kind kinds fun env he s1 x => ?_))
  subst he
  refine ⟨(e0.mod.nolimit.keeps keeps).keeps x.toInCall.keep, codeAny_func ?_⟩
  obtain ⟨t, ht, hq⟩ := hbody cdv A outer s H vs Q p cls d (hr.deeper _) hz hf hsp
  have I : Inv (L2H.cxH CX0 P w K mg base N qual (defScope st) f cdv A outer s H E0 p) [] (L2.start N vs) H s1 := L2H.inv_startH S hpin e0 hl r x
  refine wpAny_mono (ht.run [] s1 _ H _ I hq) (fun fl s' hs => ?_) fun e s' hs => hs
  cases fl with
  | ret u =>
    obtain ⟨v, σ', H', J, rv, q⟩ := hs
    exact ⟨v, H', J.os, J.bare, J.base, J.hok, rv, q⟩
  | next =>
    obtain ⟨σ', H', J, q⟩ := hs
    exact ⟨V.non, H', J.os, J.bare, J.base, J.hok, rfl, q⟩
  | brk =>
    obtain ⟨_, _, _, q⟩ := hs
    exact q.elim
  | cont =>
    obtain ⟨_, _, _, q⟩ := hs
    exact q.elim
end
/-- f(e), while an exception is handled that f gets to know -/
def tCallE (sp : SpE) (a : Addr) (cls : Value) (d : Option Addr) (t : TA) : TE := fun σ H Q => t σ H fun vs H1 => sp a cls d vs H1 Q
theorem pe_callE {X : Cx} {k : Nat} {f : Addr} {fd : FuncData} {ps : List Str} {sp : SpE} {x : Str} {q pos : Pos} {e : Expr} {es : List Expr} {t : TA} {p : Addr × Obj} {cls : Value} {d : Option Addr} (F : FnE X.prog X.w X.K X.mg X.base k f fd ps sp) (hr : L2H.RoomH k X.A)
    (hp : p ∈ X.pn) (hz : Zc cls d p.2) (hf : ∃ ws, p.2.data = .fields ws) (hg : Gl X x) (hm : X.mg x = some (.ref f)) (hk : PySem.W.keepIn X.K (.ref f) = true) (hb : Binds X.K fd ps []) (ha : PA X (e :: es) t)
    (hdb : (x == ("__debug__" : Str)) = false := by decide) (he : starEach (e :: es) X.env = (false, eval e X.env) :: starEach es X.env := by rfl) (hpl : (backTo pos (starEach es X.env)).any (·.1) = false := by rfl) :
    PE X (.Call (.Name x q) (e :: es) [] pos) (tCallE sp p.1 cls d t) := by
  refine ⟨fun pins s σ H Q I h => ?_⟩
  refine wpAny_Call_Name_kw (ld_glob I hg hm ?_ hdb)
  refine PySem.W.callWith_K (h₀ := X.base) I.ok.mod.kin hk (thn (ha.run pos pins s σ H _ I h) fun us s1 ⟨vs, H1, I1, r, q1⟩ => ⟨I1.kIn, ?_⟩) he hpl
  have hl : us.length = ps.length := by rw [← r.length]; exact F.len _ _ _ _ _ _ q1
  have b := hb s1 us I1.kIn (by rw [List.append_nil]; exact hl)
  rw [List.append_nil] at b
  obtain ⟨p1, p2, p3, p4, p5⟩ := I1.pin p (List.mem_append_left _ hp)
  have hpin : L2H.PinOk X.stack H1 s1 p := ⟨p1, p2, fun hm => (List.mem_cons.mp (I1.stkSub p.1 hm)).elim p3 p4, p5⟩
  refine wpAny_call (codeAny_mono (F.run X.A X.stack s1 H1 ⟨us, []⟩ us vs Q p cls d hr hpin hz hf I1.env0 b r q1) fun rr s' hq => ?_)
  cases rr with
  | error er => exact (show False from hq).elim
  | ok fl =>
    cases fl with
    | ret u => exact I1.after hq
    | next => exact (show False from hq).elim
    | brk => exact (show False from hq).elim
    | cont => exact (show False from hq).elim
end Mine
namespace Mine
open PySem PySem.Spec PyProof.Rows L2
/-! ### in, not in: a tuple of data -/
section
variable {X : Cx}
def rInT (K : PySem.W.Frag) (neg : Bool) : R2 := fun x y H Q => ∃ d ds, Dp K H x d ∧ Dp K H y (.tuple ds) ∧ SeqAt.shaped d = true ∧ SeqAt.shaped (.tuple ds) = true ∧ Q (.bl (if neg then !(ds.any fun z => PyData.eqv z d) else ds.any fun z => PyData.eqv z d)) H
theorem room_T {A : Around} {ds : List PyData} {d : PyData} (sd : SeqAt.shaped d = true) (hu : A.units + 65 < cLine) : A.units + 1 + min (PyData.depthAll ds) d.depth < cLine := by
  have h1 := SeqAt.depth_of_shaped sd
  have h2 : min (PyData.depthAll ds) d.depth ≤ d.depth := Nat.min_le_right _ _
  omega
theorem op_inT (hu : X.A.units + 65 < cLine) : OpR X (compareOp .In) (rInT X.K false) := by
  intro pins s σ H x y v u Q I rx ry h
  obtain ⟨d, ds, hd, he, sd, se, q⟩ := h
  obtain ⟨as, r1⟩ := Dp.reads I d x v hd rx
  obtain ⟨bs, r2⟩ := Dp.reads I (.tuple ds) y u he ry
  exact SeqAt.in_tuple_reads r2 r1 (SeqAt.canLay_of_shaped se) (SeqAt.canLay_of_shaped sd) (room_T sd hu) ⟨.bl _, H, I, rfl, q⟩
theorem op_notInT (hu : X.A.units + 65 < cLine) : OpR X (compareOp .NotIn) (rInT X.K true) := by
  intro pins s σ H x y v u Q I rx ry h
  obtain ⟨d, ds, hd, he, sd, se, q⟩ := h
  obtain ⟨as, r1⟩ := Dp.reads I d x v hd rx
  obtain ⟨bs, r2⟩ := Dp.reads I (.tuple ds) y u he ry
  exact SeqAt.notIn_tuple_reads r2 r1 (SeqAt.canLay_of_shaped se) (SeqAt.canLay_of_shaped sd) (room_T sd hu) ⟨.bl _, H, I, rfl, q⟩
end
/-! ### static methods off the class -/
structure SMet (K : PySem.W.Frag) (C : Addr) (mc : Value) (m : Str) (p g : Addr) : Prop where
  at_ : PySem.W.findCls K (.ref C) mc m = some (.get (.builtin "staticmethod.__get__") (.ref p) .none (.ref C))
  rc : ∃ rest, PySem.W.recIn K p "staticmethod" = some (.ref g :: rest)
  kp : PySem.W.keepIn K (.ref g) = true
/-- C.m(..) -/
def tSMeth (C : Addr) (sp : Sp) (dvs : List V) (E : XK) (ta : TE) (t : TA) : TE := fun σ H Q => ta σ H fun x H1 => x = .ref C ∧ t σ H1 fun vs H2 => sp (vs ++ dvs) H2 Q E
section
variable {X : Cx} {CX : CXT} {k : Nat} {C p g : Addr} {mc : Value} {m : Str} {fd : FuncData} {ps : List Str} {sp : Sp} {dvs : List V} {ds : List Value} {E : XK} {o e : Expr} {es : List Expr} {ta : TE} {t : TA} {apos pos : Pos}
theorem getmethsm {pins : List (Addr × Obj)} {σ : L2.St} {H : Hp} {s : Shared} {A : Around} {E : Value → Shared → Prop} {pl : Sem Bool} {Q : Value × List Value → Shared → Prop} (I : Inv X pins σ H s) (r : ClX.CRead X.K C mc) (c : SMet X.K C mc m p g)
    (h : ∀ s', Inv X pins σ H s' → Q (.ref g, []) s') : wpAny (model X.prog X.w) A (getMethod (.ref C) m pl) Q E s := by
  obtain ⟨rest, hp⟩ := c.rc
  exact PySem.W.method_cls I.kIn r.ga (PySem.W.cls_bind I.kIn r.rd c.at_ (wpAny_call (PySem.W.sm_get (s := { s with toks := s.toks + 1 }) I.kIn hp (PySem.W.handed_on rfl (h _ (I.tok _))))))
theorem pe_smeth {pl : Sem Bool} (he : PE X o ta) (r : ClX.CRead X.K C mc) (c : SMet X.K C mc m p g) (F : FnOk X.prog X.w X.K X.mg X.base CX k g fd ps sp) (hr : Room k X.A) (hb : Binds X.K fd ps ds) (hd : Vals dvs ds) (hx : Passes CX X E) (ha : PA X (e :: es) t)
    (hst : starEach (e :: es) X.env = (false, eval e X.env) :: starEach es X.env := by rfl) (hpl : (backTo pos (starEach es X.env)).any (·.1) = false := by rfl)
    (ht : eval (.Call (.Attribute o m apos) (e :: es) [] pos) X.env = (do
      let ov ← eval o X.env
      standAt apos.atName
      let (f, first) ← holding [ov] (getMethod ov m pl)
      callWith pos f first (backTo pos (starEach (e :: es) X.env)) (backToKw pos (keywordEach [] X.env))) := by rfl) :
    PE X (.Call (.Attribute o m apos) (e :: es) [] pos) (tSMeth C sp dvs E ta t) := by
  refine ⟨fun pins s σ H Q I h => ?_⟩
  refine PySem.W.methodCall_KW (pl := pl) (thn (he.run pins s σ H _ I h) fun u s1 ⟨x, H1, I1, rx, ex, q⟩ => ?_) ht
  subst ex
  obtain rfl : u = Value.ref C := rx
  refine getmethsm I1 r c fun s2 I2 => ?_
  exact PySem.W.callWith_K (first := []) (h₀ := X.base) I.ok.mod.kin c.kp (thn (ha.run pos pins s2 σ H1 _ I2 q) fun us s3 ⟨vs, H2, I3, rv, q2⟩ => ⟨I3.kIn, run_fn F hr hb hd hx I3 rv q2⟩) hst hpl
theorem pe_smeth0 {pl : Sem Bool} (he : PE X o ta) (r : ClX.CRead X.K C mc) (c : SMet X.K C mc m p g) (F : FnOk X.prog X.w X.K X.mg X.base CX k g fd ps sp) (hr : Room k X.A) (hb : Binds X.K fd ps ds) (hd : Vals dvs ds) (hx : Passes CX X E)
    (ht : eval (.Call (.Attribute o m apos) [] [] pos) X.env = (do
      let ov ← eval o X.env
      standAt apos.atName
      let (f, first) ← holding [ov] (getMethod ov m pl)
      callWith pos f first (backTo pos (starEach [] X.env)) (backToKw pos (keywordEach [] X.env))) := by rfl) :
    PE X (.Call (.Attribute o m apos) [] [] pos) (tSMeth C sp dvs E ta tNil) := by
  refine ⟨fun pins s σ H Q I h => ?_⟩
  refine PySem.W.methodCall_KW (pl := pl) (thn (he.run pins s σ H _ I h) fun u s1 ⟨x, H1, I1, rx, ex, q⟩ => ?_) ht
  subst ex
  obtain rfl : u = Value.ref C := rx
  refine getmethsm I1 r c fun s2 I2 => ?_
  exact PySem.W.callWith_K0 (first := []) I2.kIn c.kp (run_fn (us := []) F hr hb hd hx I2 .nil q)
end
/-! ### special methods of an instance: ==, !=, str, repr, an f-string's field -/
section
variable {X : Cx} {CX : CXT} {k : Nat} {C f : Addr} {fd : FuncData} {ps : List Str} {sp : Sp} {E : XK}
/-- the def runs in the surroundings A, which have the frames of X -/
theorem run_at {pins : List (Addr × Obj)} {σ : L2.St} {H : Hp} {s : Shared} {Q : VK} {us : List Value} {vs : List V} {A : Around} (F : FnOk X.prog X.w X.K X.mg X.base CX0 k f fd ps sp) (hr : Room k A) (hA : A.frames = X.A.frames) (hb : Binds X.K fd ps []) (I : Inv X pins σ H s) (r : Vals vs us) (h : sp vs H Q E0)
    {E' : Value → Shared → Prop} : wpAny (model X.prog X.w) A (call (.ref f) us) (EP X pins σ Q) E' s := by
  have hl : us.length = ps.length := by rw [← r.length]; exact F.len _ _ _ _ h
  have b := hb s us I.kIn (by rw [List.append_nil]; exact hl)
  rw [List.append_nil] at b
  have e := I.env0
  have e0 : Env0 X.prog X.w X.K X.mg X.base A X.stack s H := ⟨by rw [hA]; exact e.frames, e.mod, e.bs, e.bsz, e.funs, e.frf, e.hok, e.bare⟩
  refine wpAny_call (codeAny_mono (F.run A X.stack s H ⟨us, []⟩ us vs Q E0 hr e0 b r h) fun rr s' hq => ?_)
  cases rr with
  | error er => exact (show False from hq).elim
  | ok fl =>
    cases fl with
    | ret u => exact I.after hq
    | next => exact (show False from hq).elim
    | brk => exact (show False from hq).elim
    | cont => exact (show False from hq).elim
/-- what the class says of a special method of its own -/
structure Spec (K : PySem.W.Frag) (C : Addr) (m : Str) (f : Addr) : Prop where
  at_ : PySem.W.findIn K (.ref C) m = some (some (.ref f))
  fn : PySem.W.isFn K (.ref f) = true
theorem ty_looks {pins : List (Addr × Obj)} {σ : L2.St} {H : Hp} {s : Shared} {y : V} {u t : Value} (I : Inv X pins σ H s) (ry : RelV y u) (ty : TyX X.K H y t) {M : Model} : PySem.W.Looks M s.heap (typeOf u) t := by
  obtain ⟨P, Z, p, _⟩ := kit_of I ry ty
  exact Z.ty M s.heap I.kIn p
/-- x == y, x an instance whose class has an own __eq__ that gives a bool -/
def rEqO (K : PySem.W.Frag) (C : Addr) (sp : Sp) (neg : Bool) : R2 := fun x y H Q => ∃ a dx fs tb, x = .ref a ∧ H a = some (.ins C dx fs) ∧ TyX K H y tb ∧ PySem.W.notFirst K C tb = true ∧ sp [x, y] H (fun v H' => ∃ b, v = .bl b ∧ Q (.bl (if neg then !b else b)) H') E0
theorem op_eqO (F : FnOk X.prog X.w X.K X.mg X.base CX0 k f fd ps sp) (S : Spec X.K C "__eq__" f) (hr : Room k X.A) (hb : Binds X.K fd ps []) : OpR X (compareOp .Eq) (rEqO X.K C sp false) := by
  intro pins s σ H x y v u Q I rx ry h
  obtain ⟨a, dx, fs, tb, rfl, ha, ty, hn, q⟩ := h
  obtain rfl : v = Value.ref a := rx
  obtain ⟨mA, J, _⟩ := ins_get I.hok ha
  obtain ⟨od, J, _⟩ := J.look
  obtain ⟨m, hF⟩ := I.fr
  show wpAny (model X.prog X.w) X.A (richCompare .Eq (.ref a) u) (EP X pins σ Q) X.xe s
  refine PySem.W.cmp_K (op := .Eq) (tb := tb) hr.units0 hF I.ok.mod.kin J (ty_looks I ry ty) hn S.at_ S.fn ?_
  refine wpAny_mono (run_at (vs := [.ref a, y]) (us := [.ref a, u]) F hr rfl hb I (.cons rfl (.cons ry .nil)) q) (fun r s' z => ?_) fun _ _ z => z
  obtain ⟨z, H', I', rz, b, rfl, q'⟩ := z
  obtain rfl : r = Value.bool b := rz
  exact ⟨.bl b, H', I', rfl, q'⟩
theorem ifBoundB {M : Model} {A : Around} {E : Value → Shared → Prop} {s : Shared} {K : PySem.W.Frag} {x C : Addr} {ox : Obj} {od : Option Obj} {name : Str} {id : String} {args : List Value} {Q : Option Value → Shared → Prop} (KX : K.In s.heap) (J : PySem.W.InstAt s.heap x ox C od)
    (hs : PySem.W.findIn K (.ref C) name = some (some (.builtin id))) (hb : ∀ self, bindSpecial (.builtin id) self = pure (.builtin id, [self])) (h : wpAny M A (call (.builtin id) (.ref x :: args)) (fun v => Q (some v)) E s) : wpAny M A (callSpecialIfBound? (.ref x) name args) Q E s := by
  have fin : wpAny M A (call (.builtin id) ([.ref x] ++ args) >>= fun v => pure (some v)) Q E s := wpAny_bind (wpAny_mono h (fun _ _ z => wpAny_pure z) fun _ _ z => z)
  simp only [callSpecialIfBound?, bindSpecialIfBound?]
  refine wpAny_holding (wpAny_bind (wpAny_bind (wpAny_bind (J.type.here ((PySem.W.looks_findIn KX hs).here (wpAny_bind (wpAny_askSetting (wpAny_ite ?_))))))))
  split
  · exact wpAny_bind ((PySem.W.Looks.of_pure (hb _)).here (wpAny_pure (by exact fin)))
  · exact wpAny_tryCatch (wpAny_bind ((PySem.W.Looks.of_pure (hb _)).here (wpAny_pure (by exact fin))))
open Builtin in
theorem op_neO (F : FnOk X.prog X.w X.K X.mg X.base CX0 k f fd ps sp) (S : Spec X.K C "__eq__" f) (hne : PySem.W.findIn X.K (.ref C) "__ne__" = some (some (.builtin "object.__ne__"))) (hm : PySem.W.mroIn X.K C (.type "object") = some true) (hr : Room (k + 1) X.A) (hb : Binds X.K fd ps []) :
    OpR X (compareOp .NotEq) (rEqO X.K C sp true) := by
  intro pins s σ H x y v u Q I rx ry h
  obtain ⟨a, dx, fs, tb, rfl, ha, ty, hn, q⟩ := h
  obtain rfl : v = Value.ref a := rx
  obtain ⟨mA, J, _⟩ := ins_get I.hok ha
  obtain ⟨od, J, _⟩ := J.look
  have KX := I.kIn
  have hr1 : Room k X.A.in1 := hr.in1
  have bind : ∀ self : Value, bindSpecial (.builtin "object.__ne__") self = pure (.builtin "object.__ne__", [self]) := fun self => by with_unfolding_all rfl
  have inner : wpAny (model X.prog X.w) X.A (call (.builtin "object.__ne__") [.ref a, u]) (fun r s' => ∃ b, r = Value.bool b ∧ EP X pins σ Q r s') X.xe s := by
    refine wpAny_call (codeAny_call_builtin (by decide +kernel) PySem.F.cmpEntry_ne (PySem.W.check_slot PySem.F.cmpKind_ne PySem.F.cmpSplit_ne (J.type.andThen (PySem.W.looks_mroIn KX hm)) (PySem.F.cmpArgs_ne _ _) ?_))
    unfold Builtin.«object.__ne__»
    refine wpAny_bind (m := slotArgs "__ne__" 1 _) (wpAny_pure ?_)
    refine wpAny_bind (m := cRoomFor _ _) (wpAny_cRoomFor hr1.units0 ?_)
    refine wpAny_bind (m := callSpecialIfBound? (.ref a) (Str.ofString "__eq__") [u]) (PySem.W.ifBound_K KX J S.at_ S.fn ?_)
    refine wpAny_mono (run_at (vs := [.ref a, y]) (us := [.ref a, u]) F hr1 rfl hb I (.cons rfl (.cons ry .nil)) q) (fun r s' z => ?_) fun _ _ z => z
    obtain ⟨z, H', I', rz, b, rfl, q'⟩ := z
    obtain rfl : r = Value.bool b := rz
    refine wpAny_bind (m := truthy (.bool b)) (wpAny_truthy_bool ?_)
    exact wpAny_pure ⟨!b, rfl, .bl (!b), H', I', rfl, q'⟩
  have one : wpAny (model X.prog X.w) X.A (tryCompare (.ref a) "__ne__" u) (fun r s' => ∃ v, r = some v ∧ EP X pins σ Q v s') X.xe s := by
    unfold tryCompare
    refine wpAny_bind (ifBoundB KX J hne bind (wpAny_mono inner (fun r s' z => ?_) fun _ _ z => z))
    obtain ⟨b, rfl, z⟩ := z
    exact wpAny_pure ⟨_, rfl, z⟩
  show wpAny (model X.prog X.w) X.A (richCompare .NotEq (.ref a) u) (EP X pins σ Q) X.xe s
  unfold richCompare
  simp only [oneThing_ref]
  refine wpAny_holding (wpAny_bind (wpAny_cRoomFor hr.units0 (wpAny_bind (J.type.here (wpAny_bind ((ty_looks I ry ty).here ?_))))))
  split
  · rename_i c
    have e : PySem.W.subIn X.K tb (.ref C) = some false := by
      rcases Bool.or_eq_true_iff.mp hn with e | e
      · rw [beq_iff_eq.mp e] at c
        simp at c
      · exact beq_iff_eq.mp e
    refine wpAny_bind ((PySem.W.looks_subIn KX e).here ?_)
    simp only [Bool.false_eq_true, if_false]
    refine wpAny_bind (wpAny_mono one (fun r s' z => ?_) fun _ _ z => z)
    obtain ⟨v, rfl, z⟩ := z
    exact wpAny_pure z
  · refine wpAny_bind (wpAny_pure ?_)
    simp only [Bool.false_eq_true, if_false]
    refine wpAny_bind (wpAny_mono one (fun r s' z => ?_) fun _ _ z => z)
    obtain ⟨v, rfl, z⟩ := z
    exact wpAny_pure z
end
end Mine
namespace Mine
open PySem PySem.Spec PyProof.Rows L2
/-! ### the text of an instance by its own __str__, __repr__ -/
def spStrs (C : Addr) (sp : Sp) (x : V) (H : Hp) (Q : VK) : Prop := ∃ a dx fs, x = .ref a ∧ H a = some (.ins C dx fs) ∧ sp [x] H (fun v H' => ∃ z, v = .str z ∧ Q (.str z) H') E0
def rStrO (C : Addr) (sp : Sp) : List V → Hp → VK → Prop := fun xs H Q => ∃ x, xs = [x] ∧ spStrs C sp x H Q
def tFmtO (C : Addr) (sp : Sp) (te : TE) : TE := fun σ H Q => te σ H fun x H1 => spStrs C sp x H1 Q
section
variable {X : Cx} {k : Nat} {C f : Addr} {fd : FuncData} {ps : List Str} {sp : Sp}
theorem str_at {pins : List (Addr × Obj)} {σ : L2.St} {H : Hp} {s : Shared} {Q : VK} {A : Around} {E' : Value → Shared → Prop} {a : Addr} (F : FnOk X.prog X.w X.K X.mg X.base CX0 k f fd ps sp) (hr : Room k A) (hA : A.frames = X.A.frames) (hb : Binds X.K fd ps []) (I : Inv X pins σ H s)
    (q : sp [.ref a] H (fun v H' => ∃ z, v = .str z ∧ Q (.str z) H') E0) : wpAny (model X.prog X.w) A (call (.ref f) [.ref a]) (PySem.W.StrBack (EP X pins σ Q)) E' s := by
  refine wpAny_mono (run_at (vs := [.ref a]) (us := [.ref a]) F hr hA hb I (.cons rfl .nil) q) (fun r s' z => ?_) fun _ _ z => z
  obtain ⟨v, H', I', rv, z, rfl, q'⟩ := z
  obtain ⟨t, rfl⟩ := rv
  exact ⟨.str z, H', I', ⟨t, rfl⟩, q'⟩
theorem call_strO (F : FnOk X.prog X.w X.K X.mg X.base CX0 k f fd ps sp) (S : Spec X.K C "__str__" f) (hr : Room (k + 2) X.A) (hb : Binds X.K fd ps []) : CallR X (.type "str") (rStrO C sp) := by
  intro pins s σ H xs us Q I r h
  obtain ⟨x, rfl, a, dx, fs, rfl, ha, q⟩ := h
  obtain ⟨u, rfl, rx⟩ := vals1 r
  obtain rfl : u = Value.ref a := rx
  obtain ⟨mA, J, _⟩ := ins_get I.hok ha
  obtain ⟨od, J, _⟩ := J.look
  have hr2 : Room k X.A.in1.in1 := hr.in1.in1
  exact PySem.W.kso_call hr2.units0 I.kIn J S.at_ S.fn (str_at F hr2 rfl hb I q)
theorem call_reprO (F : FnOk X.prog X.w X.K X.mg X.base CX0 k f fd ps sp) (S : Spec X.K C "__repr__" f) (hr : Room (k + 1) X.A) (hb : Binds X.K fd ps []) : CallR X (.builtin "repr") (rStrO C sp) := by
  intro pins s σ H xs us Q I r h
  obtain ⟨x, rfl, a, dx, fs, rfl, ha, q⟩ := h
  obtain ⟨u, rfl, rx⟩ := vals1 r
  obtain rfl : u = Value.ref a := rx
  obtain ⟨mA, J, _⟩ := ins_get I.hok ha
  obtain ⟨od, J, _⟩ := J.look
  obtain ⟨m, hF⟩ := I.fr
  have hr1 : Room k X.A.in1 := hr.in1
  exact PySem.W.repr_K hr1.units0 hF I.ok.mod.kin J S.at_ S.fn (str_at F hr1 rfl hb I q)
/-- the class's texts are asked by an f-string's field -/
structure FmtC (K : PySem.W.Frag) (C : Addr) : Prop where
  fm : PySem.W.findIn K (.ref C) "__format__" = some (some (.builtin "object.__format__"))
  ob : PySem.W.mroIn K C (.type "object") = some true
theorem pe_fmtO {e : Expr} {te : TE} {pos : Pos} (F : FnOk X.prog X.w X.K X.mg X.base CX0 k f fd ps sp) (S : Spec X.K C "__str__" f) (M : FmtC X.K C) (hr : Room (k + 1) X.A) (hb : Binds X.K fd ps []) (he : PE X e te) : PE X (.FormattedValue e (-1) none pos) (tFmtO C sp te) := by
  refine ⟨fun pins s σ H Q I h => ?_⟩
  refine wpAny_FormattedValue_plain (thn (he.run pins s σ H _ I h) fun v s1 hv => ?_)
  obtain ⟨x, H1, I1, rx, a, dx, fs, rfl, ha, q⟩ := hv
  obtain rfl : v = Value.ref a := rx
  obtain ⟨mA, J, _⟩ := ins_get I1.hok ha
  obtain ⟨od, J, _⟩ := J.look
  have hr1 : Room k X.A.in1 := hr.in1
  exact PySem.W.kfo_fieldS hr1.units0 I1.kIn J M.fm M.ob S.at_ S.fn (str_at F hr1 rfl hb (I1.tok _) q)
end
end Mine
namespace Mine
open PySem PySem.Spec PyProof.Rows L2
/-! ### code that is never reached -/
def tDead : TE := fun _ _ _ => False
section
variable {X : Cx}
theorem pe_dead {e : Expr} : PE X e tDead := ⟨fun _ _ _ _ _ _ h => h.elim⟩
/-! ### one rule or another -/
theorem op_any {f : Value → Value → Sem Value} {r1 r2 : R2} (h1 : OpR X f r1) (h2 : OpR X f r2) : OpR X f (fun x y H Q => r1 x y H Q ∨ r2 x y H Q) := fun pins s σ H x y v u Q I rx ry h => h.elim (h1 pins s σ H x y v u Q I rx ry) (h2 pins s σ H x y v u Q I rx ry)
theorem un_any {f : Value → Sem Value} {r1 r2 : V → Hp → VK → Prop} (h1 : UnR X f r1) (h2 : UnR X f r2) : UnR X f (fun x H Q => r1 x H Q ∨ r2 x H Q) := fun pins s σ H x v Q I rx h => h.elim (h1 pins s σ H x v Q I rx) (h2 pins s σ H x v Q I rx)
theorem call_any {f : Value} {r1 r2 : List V → Hp → VK → Prop} (h1 : CallR X f r1) (h2 : CallR X f r2) : CallR X f (fun x H Q => r1 x H Q ∨ r2 x H Q) := fun pins s σ H x v Q I rx h => h.elim (h1 pins s σ H x v Q I rx) (h2 pins s σ H x v Q I rx)
/-! ### // by any divisor below 2 ^ 9000 -/
def CDivG (_ j : Int) : Prop := j ≠ 0 ∧ j.natAbs.log2 < 9000
theorem op_fdivG : OpR X (binaryOp .FloorDiv) (rI CDivG fun i j => .int (i.fdiv j)) := opI fun _ _ _ _ _ _ _ hc q => floordiv_int hc.1 q (.inl (PyProof.noPylong_of_log2 hc.2))
end
/-! ### operators of own classes -/
/-- what is known of the operator nm of the class at C: f its own def, g the reflected one -/
structure OpC (K : PySem.W.Frag) (C : Addr) (nm : String) (f g : Addr) : Prop where
  sf : PySem.W.selfFirst K C = true
  hs : PySem.W.findIn K (.ref C) (PySem.dunder nm) = some (some (.ref f))
  hf : PySem.W.isFn K (.ref f) = true
  hr : PySem.W.findIn K (.ref C) (dunderR nm) = some (some (.ref g))
  hg : PySem.W.isFn K (.ref g) = true
  s1 : PySem.W.subIn K (.type "int") (.ref C) = some false
  s2 : PySem.W.subIn K (.ref C) (.type "int") = some false
section
variable {X : Cx} {k : Nat} {C f g : Addr} {fd : FuncData} {ps : List Str} {sp : Sp} {op : Operator}
theorem cmpBack_of {pins : List (Addr × Obj)} {σ : L2.St} {Q : VK} {u : Value} {s : Shared} (h : EP X pins σ Q u s) : PySem.W.CmpBack (EP X pins σ Q) u s := by
  cases u <;> first | exact h | skip
  obtain ⟨x, H, I, r, _⟩ := h
  cases x <;> first | (obtain ⟨_, h⟩ := r; cases h) | cases r
/-- x op y, both instances -/
def rBinO (C : Addr) (sp : Sp) : R2 := fun x y H Q => ∃ a dx fs b dy gs, x = .ref a ∧ y = .ref b ∧ H a = some (.ins C dx fs) ∧ H b = some (.ins C dy gs) ∧ sp [x, y] H Q E0
theorem op_binO (F : FnOk X.prog X.w X.K X.mg X.base CX0 k f fd ps sp) (S : OpC X.K C op.info.2 f g) (hr : Room k X.A) (hb : Binds X.K fd ps []) : OpR X (binaryOp op) (rBinO C sp) := by
  intro pins s σ H x y v u Q I rx ry h
  obtain ⟨a, dx, fs, b, dy, gs, rfl, rfl, ha, hb', q⟩ := h
  obtain rfl : v = Value.ref a := rx
  obtain rfl : u = Value.ref b := ry
  obtain ⟨mA, J, _⟩ := ins_get I.hok ha
  obtain ⟨od, J, _⟩ := J.look
  obtain ⟨mB, J2, _⟩ := ins_get I.hok hb'
  obtain ⟨od2, J2, _⟩ := J2.look
  obtain ⟨m, hF⟩ := I.fr
  refine PySem.W.binop_K (op := op) hF I.ok.mod.kin J J2.type S.sf S.hs S.hf ?_
  exact wpAny_mono (run_at (vs := [.ref a, .ref b]) (us := [.ref a, .ref b]) F hr rfl hb I (.cons rfl (.cons rfl .nil)) q) (fun r s' z => cmpBack_of z) fun _ _ z => z
/-- x op y, x an instance, y an int -/
def rBinI (C : Addr) (sp : Sp) : R2 := fun x y H Q => ∃ a dx fs i, x = .ref a ∧ y = .int i ∧ H a = some (.ins C dx fs) ∧ sp [x, y] H Q E0
theorem op_binI {fo ro : Option Value} (F : FnOk X.prog X.w X.K X.mg X.base CX0 k f fd ps sp) (S : OpC X.K C op.info.2 f g) (h1 : PySem.W.findIn X.K (.type "int") (PySem.dunder op.info.2) = some fo) (h2 : PySem.W.findIn X.K (.type "int") (dunderR op.info.2) = some ro)
    (hr : Room k X.A) (hb : Binds X.K fd ps []) : OpR X (binaryOp op) (rBinI C sp) := by
  intro pins s σ H x y v u Q I rx ry h
  obtain ⟨a, dx, fs, i, rfl, rfl, ha, q⟩ := h
  obtain rfl : v = Value.ref a := rx
  obtain ⟨t, rfl⟩ := ry
  obtain ⟨mA, J, _⟩ := ins_get I.hok ha
  obtain ⟨od, J, _⟩ := J.look
  obtain ⟨m, hF⟩ := I.fr
  refine PySem.W.ksp_binT (op := op) (T := "int") hF I.ok.mod.kin J rfl S.sf S.hs S.hf S.hr (.inr ⟨g, rfl⟩) h1 h2 S.s1 ?_
  exact wpAny_mono (run_at (vs := [.ref a, .int i]) (us := [.ref a, .int i t]) F hr rfl hb I (.cons rfl (.cons ⟨t, rfl⟩ .nil)) q) (fun r s' z => cmpBack_of z) fun _ _ z => z
/-- -x -/
def rUnO (C : Addr) (sp : Sp) : V → Hp → VK → Prop := fun x H Q => ∃ a dx fs, x = .ref a ∧ H a = some (.ins C dx fs) ∧ sp [x] H Q E0
theorem un_negO (F : FnOk X.prog X.w X.K X.mg X.base CX0 k f fd ps sp) (S : Spec X.K C "__neg__" f) (hr : Room k X.A) (hb : Binds X.K fd ps []) : UnR X (unaryOp .USub) (rUnO C sp) := by
  intro pins s σ H x v Q I rx h
  obtain ⟨a, dx, fs, rfl, ha, q⟩ := h
  obtain rfl : v = Value.ref a := rx
  obtain ⟨mA, J, _⟩ := ins_get I.hok ha
  obtain ⟨od, J, _⟩ := J.look
  obtain ⟨m, hF⟩ := I.fr
  refine PySem.W.ksp_neg hF I.ok.mod.kin J S.at_ S.fn ?_
  exact run_at (vs := [.ref a]) (us := [.ref a]) F hr rfl hb I (.cons rfl .nil) q
/-- abs(x) -/
def rAbsO (C : Addr) (sp : Sp) : List V → Hp → VK → Prop := fun xs H Q => ∃ x, xs = [x] ∧ rUnO C sp x H Q
theorem call_absO (F : FnOk X.prog X.w X.K X.mg X.base CX0 k f fd ps sp) (S : Spec X.K C "__abs__" f) (hr : Room (k + 1) X.A) (hb : Binds X.K fd ps []) : CallR X (.builtin "abs") (rAbsO C sp) := by
  intro pins s σ H xs us Q I r h
  obtain ⟨x, rfl, a, dx, fs, rfl, ha, q⟩ := h
  obtain ⟨u, rfl, rx⟩ := vals1 r
  obtain rfl : u = Value.ref a := rx
  obtain ⟨mA, J, _⟩ := ins_get I.hok ha
  obtain ⟨od, J, _⟩ := J.look
  have hr1 : Room k X.A.in1 := hr.in1
  refine Calls.call_function_entry kind_abs plain_abs entry_abs (args_abs _) ?_
  unfold Builtin.«abs»
  refine wpAny_bind (m := oneArg "abs" _) (wpAny_pure ?_)
  refine wpAny_bind (m := callSpecial? (.ref a) (Str.ofString "__abs__") []) (PySem.W.special_fn I.kIn J S.at_ (beq_iff_eq.mp S.fn) ?_)
  refine wpAny_mono (run_at (vs := [.ref a]) (us := [.ref a]) F hr1 rfl hb I (.cons rfl .nil) q) (fun r s' z => ?_) fun _ _ z => z
  exact wpAny_pure ⟨_, rfl, z⟩
/-- an int's own operator does not know an instance -/
theorem int_declines {nm : String} {fI : Int → Int → Sem Fin} {M : Model} {A : Around} {E : Value → Shared → Prop} {s : Shared} {i : Int} {t : Tok} {x : Addr} {ox : Obj} {Q : Fin → Shared → Prop} (hx : s.heap.get? x = some ox) (hd : ox.data = .plain)
    (h : Q (.done (.ret .notImplemented)) s) : wpAny M A (Builtin.Int.intBinary nm fI false ⟨[.int i t, .ref x], []⟩) Q E s := by
  unfold Builtin.Int.intBinary
  refine wpAny_bind (m := slotArgs nm 1 _) (wpAny_pure ?_)
  refine wpAny_bind (m := Builtin.Int.intOfSelf (.int i t)) (wpAny_pure ?_)
  refine wpAny_bind (m := asInt? (.ref x)) (wpAny_bind (wpAny_load hx ?_))
  rw [hd]
  exact wpAny_pure (wpAny_bind (wpAny_rule (wpAny_pure h)))
/-- what is known of the int's side -/
structure IntOp (nm : String) (id : String) (B : Builtin) : Prop where
  fl : fillsNumberSlot (.type "int") nm = pure true
  sl : Slot "int" (PySem.dunder nm) id
  en : entryFor table id = some B
  ar : ∀ a b : Value, argsOk id ⟨[a, b], []⟩
  bi : ∃ (n : String) (fI : Int → Int → Sem Fin), B = Builtin.Int.intBinary n fI false
theorem intOp_add : IntOp "add" "int.__add__" Builtin.«int.__add__» := ⟨PySem.F.fills_int_add, PySem.F.slot_int_add, PySem.F.entry_int_add, PySem.F.args_int_add_2, _, _, rfl⟩
theorem intOp_sub : IntOp "sub" "int.__sub__" Builtin.«int.__sub__» := ⟨PySem.F.fills_int_sub, PySem.F.slot_int_sub, PySem.F.entry_int_sub, PySem.F.args_int_sub_2, _, _, rfl⟩
theorem intOp_mul : IntOp "mul" "int.__mul__" Builtin.«int.__mul__» := ⟨PySem.F.fills_int_mul, PySem.F.slot_int_mul, PySem.F.entry_int_mul, PySem.F.args_int_mul_2, _, _, rfl⟩
/-- y op x, y an int, x an instance with the reflected def -/
def rBinR (C : Addr) (sp : Sp) : R2 := fun y x H Q => ∃ a dx fs i, x = .ref a ∧ y = .int i ∧ H a = some (.ins C dx fs) ∧ sp [x, y] H Q E0
theorem op_binR {id : String} {B : Builtin} (W : IntOp op.info.2 id B) (F : FnOk X.prog X.w X.K X.mg X.base CX0 k g fd ps sp) (S : OpC X.K C op.info.2 f g) (hr : Room k X.A) (hb : Binds X.K fd ps []) : OpR X (binaryOp op) (rBinR C sp) := by
  intro pins s σ H y x u v Q I ry rx h
  obtain ⟨a, dx, fs, i, rfl, rfl, ha, q⟩ := h
  obtain rfl : v = Value.ref a := rx
  obtain ⟨t, rfl⟩ := ry
  obtain ⟨mA, J0, _⟩ := ins_get I.hok ha
  obtain ⟨od, J, _⟩ := J0.look
  have KX := I.kIn
  obtain ⟨cd, rest, hcd, hm⟩ := PySem.W.ksp_first S.sf
  have run : wpAny (model X.prog X.w) X.A (call (.ref g) [.ref a, .int i t]) (PySem.W.CmpBack (EP X pins σ Q)) X.xe s :=
    wpAny_mono (run_at (vs := [.ref a, .int i]) (us := [.ref a, .int i t]) F hr rfl hb I (.cons rfl (.cons ⟨t, rfl⟩ .nil)) q) (fun r s' z => cmpBack_of z) fun _ _ z => z
  rcases hi : op.info with ⟨sym, nm'⟩
  have W' := W
  rw [hi] at W'
  have S' := S
  rw [hi] at S'
  dsimp only at W' S'
  obtain ⟨n, fI, hB⟩ := W'.bi
  have ti : s.TypeIs (.int i t) "int" := typeIs_int s i t
  have dec : wpAny (model X.prog X.w) X.A (call (.builtin id) [.int i t, .ref a]) (fun v s' => v = .notImplemented ∧ s' = s) X.xe s := by
    refine wpAny_call (codeAny_call_builtin W'.sl.plain W'.en (W'.sl.check _ _ _ _ _ _ _ _ ti (W'.ar _ _) ?_))
    rw [hB]
    exact int_declines J0.obj rfl ⟨rfl, rfl⟩
  have one := PySem.W.ksp_try KX J S'.hr S'.hg run
  have hne : (Value.type "int" == Value.ref C) = false := Bool.eq_false_iff.mpr fun q => by cases beq_iff_eq.mp q
  simp only [binaryOp, hi]
  refine wpAny_holding (wpAny_bind ?_)
  unfold binaryOp1
  refine wpAny_bind (wpAny_typeOf ti (wpAny_bind (J.type.here (wpAny_bind (wpAny_of_eq W'.fl ?_)))))
  simp only [hne, Bool.false_eq_true, if_false]
  refine wpAny_bind ((PySem.W.fills_K KX hcd hm S'.hs).here ?_)
  simp only [Bool.and_self, if_true]
  refine wpAny_bind ((PySem.W.looks_subIn KX S'.s2).here ?_)
  have hpy : numberSlotInPython (.type "int") nm' = pure false := rfl
  simp only [Bool.false_eq_true, if_false, pure_bind, Bool.not_false, Bool.and_self, if_true, hpy]
  refine wpAny_bind (wpAny_tryMethod_declines ti W'.sl (wpAny_mono dec (fun v s' z => ⟨z.1, ?_⟩) fun _ _ z => z))
  rw [z.2]
  refine wpAny_bind (wpAny_mono one (fun r s' z => ?_) fun _ _ z => z)
  obtain ⟨v, rfl, z⟩ := z
  exact wpAny_bind (wpAny_rule (wpAny_pure (wpAny_pure z)))
end
end Mine
namespace Mine
open PySem PySem.Spec PyProof.Rows L2
/-! ### o.m(.., k = v, ..), C.m(k = v, ..) -/
def tMethK (C : Addr) (m : Str) (n l : Nat) (sp : Sp) (gV : List V → List V → List V) (E : XK) (ta : TE) (t tk : TA) : TE := fun σ H Q => ta σ H fun x H1 => ∃ a dx fs, x = .ref a ∧ H1 a = some (.ins C dx fs) ∧ fs.lookup m = none ∧
  t σ H1 fun vs H2 => tk σ H2 fun zs H3 => vs.length = n ∧ zs.length = l ∧ sp (gV (x :: vs) zs) H3 Q E
section
variable {X : Cx} {CX : CXT} {k n : Nat} {f C : Addr} {fd : FuncData} {ps ks : List Str} {sp : Sp} {E : XK} {m : Str} {pos apos : Pos} {e o : Expr} {es : List Expr} {kws : List Keyword} {ta : TE} {t tk : TA} {g : List Value → List Value → List Value} {gV : List V → List V → List V}
theorem run_kn {pins : List (Addr × Obj)} {σ : L2.St} {H : Hp} {s : Shared} {Q : VK} {us ws : List Value} {vs zs : List V} (F : FnOk X.prog X.w X.K X.mg X.base CX k f fd ps sp) (hr : Room k X.A) (hb : KBn X.K fd ps n ks g gV) (hx : Passes CX X E)
    (I : Inv X pins σ H s) (r : Vals vs us) (rz : Vals zs ws) (l1 : vs.length = n) (l2 : zs.length = ks.length) (h : sp (gV vs zs) H Q E) : wpAny (model X.prog X.w) X.A (call (.ref f) us (ks.zip ws)) (EP X pins σ Q) X.xe s := by
  have r2 := hb.rel r rz
  refine wpAny_call (codeAny_mono (F.run X.A X.stack s H ⟨us, ks.zip ws⟩ (g us ws) (gV vs zs) Q E hr I.env0 (hb.to s us ws I.kIn (r.length.symm.trans l1) (rz.length.symm.trans l2)) r2 h) fun r s' hq => ?_)
  cases r with
  | error e => exact hx pins σ H s e s' I hq
  | ok fl =>
    cases fl with
    | ret u => exact I.after hq
    | next => exact False.elim hq
    | brk => exact False.elim hq
    | cont => exact False.elim hq
theorem pe_methK0 {pl : Sem Bool} (he : PE X o ta) (c : Cls X.K C) (hm : Meth X.K C m f) (F : FnOk X.prog X.w X.K X.mg X.base CX k f fd ps sp) (hr : Room k X.A) (hb : KBn X.K fd ps 1 ks g gV) (hx : Passes CX X E) (hkw : PK X kws tk)
    (hall : (backToKw pos (keywordEach kws X.env)).all (·.1.isSome) = true := by rfl) (hks : (backToKw pos (keywordEach kws X.env)).filterMap (·.1) = ks := by rfl)
    (hpl : ((backTo pos (starEach [] X.env)).any (·.1) || (backToKw pos (keywordEach kws X.env)).any (·.1.isNone)) = false := by rfl)
    (ht : eval (.Call (.Attribute o m apos) [] kws pos) X.env = (do
      let ov ← eval o X.env
      standAt apos.atName
      let (f, first) ← holding [ov] (getMethod ov m pl)
      callWith pos f first (backTo pos (starEach [] X.env)) (backToKw pos (keywordEach kws X.env))) := by rfl) :
    PE X (.Call (.Attribute o m apos) [] kws pos) (tMethK C m 0 ks.length sp gV E ta tNil tk) := by
  refine ⟨fun pins s σ H Q I h => ?_⟩
  refine PySem.W.methodCall_KW (pl := pl) (thn (he.run pins s σ H _ I h) fun u s1 ⟨x, H1, I1, rx, a, dx, fs, ex, ea, l, q⟩ => ?_) ht
  subst ex
  obtain rfl : u = Value.ref a := rx
  refine getmeth_ok I1 ea c hm l ?_
  refine PySem.W.callWith_KW0 (first := [.ref a]) (h₀ := X.base) I.ok.mod.kin hm.kp hall ?_ hpl
  refine thn (hkw.run pos pins s1 σ H1 _ I1 q) fun ws s2 ⟨zs, H2, I2, rz, _, l2, q2⟩ => ⟨I2.kIn, ?_⟩
  rw [hks]
  exact run_kn (us := [.ref a]) (vs := [.ref a]) F hr hb hx I2 (.cons rfl .nil) rz rfl l2 q2
/-- f(k = v, ..) -/
def tCallK0 (n : Nat) (sp : Sp) (gV : List V → List V → List V) (E : XK) (tk : TA) : TE := fun σ H Q => tk σ H fun zs H2 => zs.length = n ∧ sp (gV [] zs) H2 Q E
theorem pe_callK0 {x : Str} {p : Pos} (F : FnOk X.prog X.w X.K X.mg X.base CX k f fd ps sp) (hr : Room k X.A) (hg : Gl X x) (hm : X.mg x = some (.ref f)) (hk : PySem.W.keepIn X.K (.ref f) = true) (hb : KBn X.K fd ps 0 ks g gV) (hx : Passes CX X E) (hkw : PK X kws tk)
    (hall : (backToKw pos (keywordEach kws X.env)).all (·.1.isSome) = true := by rfl) (hks : (backToKw pos (keywordEach kws X.env)).filterMap (·.1) = ks := by rfl) (hdb : (x == ("__debug__" : Str)) = false := by decide)
    (hpl : ((backTo pos (starEach [] X.env)).any (·.1) || (backToKw pos (keywordEach kws X.env)).any (·.1.isNone)) = false := by rfl) :
    PE X (.Call (.Name x p) [] kws pos) (tCallK0 ks.length sp gV E tk) := by
  refine ⟨fun pins s σ H Q I h => ?_⟩
  refine wpAny_Call_Name_kw (ld_glob I hg hm ?_ hdb)
  refine PySem.W.callWith_KW0 (h₀ := X.base) I.ok.mod.kin hk hall ?_ hpl
  refine thn (hkw.run pos pins s σ H _ I h) fun ws s2 ⟨zs, H2, I2, rz, l2, q2⟩ => ⟨I2.kIn, ?_⟩
  rw [hks]
  exact run_kn (us := []) (vs := []) F hr hb hx I2 .nil rz rfl l2 q2
end
end Mine
namespace Mine
open PySem PySem.Spec PyProof.Rows L2
/-! ### the bag of draws -/
def bagO (l : Addr) (i r m n : Int) : HO := .lst [.ref l, .int i, .int r, .int m, .int n]
structure BagV (H : Hp) (l : Addr) (i r m : Int) : Prop where
  ls : ∃ ns : List Int, H l = some (.lst (ns.map V.int))
  i0 : 0 ≤ i
  r0 : 0 ≤ r
  m0 : 0 ≤ m
  m1 : m < 2147483549
def Bag (H : Hp) (b : Addr) : Prop := ∃ l i r m n, H b = some (bagO l i r m n) ∧ BagV H l i r m ∧ l ≠ b
theorem Bag.put {H : Hp} {b l : Addr} {i r m n : Int} (ne : l ≠ b) (h : BagV H l i r m) : Bag (upd H b (bagO l i r m n)) b :=
  ⟨l, i, r, m, n, upd_same, ⟨(let ⟨ns, e⟩ := h.ls; ⟨ns, by rw [upd_ne ne]; exact e⟩), h.i0, h.r0, h.m0, h.m1⟩, ne⟩
theorem Bag.same {H H' : Hp} {b : Addr} (h : Bag H b) (e : ∀ c o, H c = some o → H' c = some o) : Bag H' b := by
  obtain ⟨l, i, r, m, n, hb, hV, ne⟩ := h
  obtain ⟨ns, hl⟩ := hV.ls
  exact ⟨l, i, r, m, n, e _ _ hb, ⟨⟨ns, e _ _ hl⟩, hV.i0, hV.r0, hV.m0, hV.m1⟩, ne⟩
def spPull : Sp := fun vs H Q _ => ∃ (b : Addr) (many : Int), vs = [.ref b, .int many] ∧ Bag H b ∧ 0 < many ∧ many < 1073741824 ∧
  ∀ (d : Int) (o : HO), 0 ≤ d → d < many → Bag (upd H b o) b → Q (.int d) (upd H b o)
structure TxtL (mg : Str → Option Value) : Prop where
  len : mg "len" = none
  abs : mg "abs" = none
  int : mg "int" = none
  list : mg "list" = none
section
variable {P : Program} {w : World} {K : PySem.W.Frag} {mg : Str → Option Value} {base : Heap}
theorem itT {c : Bool} {A B : Prop} (hc : c = true) (h : A) : if c = true then A else B := by
  rw [if_pos hc]
  exact h
theorem itF {c : Bool} {A B : Prop} (hc : c = false) (h : B) : if c = true then A else B := by
  rw [hc, if_neg Bool.false_ne_true]
  exact h
theorem rd_ix {σ : L2.St} {H : Hp} {Q : VK} {b : Addr} {xs : List V} {i : Int} {v : V} (s0 : σ[0]? = some (some (.ref b))) (h : H b = some (.lst xs)) (ha : atI xs i = some v) (q : Q v H) : tOp (rIxL K) (tVar 0) (tC (.int i)) σ H Q :=
  ⟨_, s0, b, xs, i, v, rfl, rfl, SqL.of h, ha, q⟩
theorem rd_set {σ : L2.St} {H : Hp} {D : Ends} {b : Addr} {xs : List V} {i : Int} {j : Nat} {v : V} {te : TE} (s0 : σ[0]? = some (some (.ref b))) (he : ∀ Q : VK, Q v H → te σ H Q) (h : H b = some (.lst xs)) (hj : ixN xs.length i = some j) (q : D.nx σ (upd H b (.lst (xs.set j v)))) :
    tAsg te (gSub (tVar 0) (tC (.int i)) rSetL) D σ H := he _ ⟨_, s0, b, xs, i, j, rfl, rfl, h, hj, q⟩
theorem at_range {ns : List Int} {i : Int} (h0 : 0 ≤ i) (h1 : i < ((ns.map V.int).length : Int)) : ∃ z, atI (ns.map V.int) i = some (V.int z) := by
  have h2 : i.toNat < ns.length := by rw [List.length_map] at h1; omega
  refine ⟨ns[i.toNat], ?_⟩
  unfold atI ixN
  rw [if_pos h0, if_pos h1]
  simp [h2]
end
/-! ### data -/
def okD : Nat → PyData → Bool
  | _, .none => true
  | _, .bool _ => true
  | _, .int _ => true
  | _, .str _ => true
  | n + 1, .list ds => decide (ds.length ≤ 1000) && ds.all (okD n)
  | n + 1, .tuple ds => decide (ds.length ≤ 1000) && ds.all (okD n)
  | _, _ => false
def tyD : PyData → Value
  | .none => .type "NoneType"
  | .bool _ => .type "bool"
  | .int _ => .type "int"
  | .str _ => .type "str"
  | .list _ => .type "list"
  | .tuple _ => .type "tuple"
  | .dict _ => .type "dict"
theorem Same.sqT {K : PySem.W.Frag} {H H' : Hp} {a : Addr} {xs : List V} (e : Same H H') (h : SqT K H a xs) : SqT K H' a xs := Evl.ex_t e h
mutual
theorem dp_mono {K : PySem.W.Frag} {H H' : Hp} (e : Same H H') : ∀ (d : PyData) (v : V), Dp K H v d → Dp K H' v d
  | .none, _, h => by cases h; exact .non
  | .bool b, _, h => by cases h; exact .bl b
  | .int i, _, h => by cases h; exact .int i
  | .str x, _, h => by cases h; exact .str x
  | .list ds, _, h => by
    cases h with
    | lst s a => exact .lst (Evl.ex_l e s) (dpAll_mono e ds _ a)
  | .tuple ds, _, h => by
    cases h with
    | tup s a => exact .tup (Evl.ex_t e s) (dpAll_mono e ds _ a)
  | .dict _, _, h => nomatch h
theorem dpAll_mono {K : PySem.W.Frag} {H H' : Hp} (e : Same H H') : ∀ (ds : List PyData) (vs : List V), DpAll K H vs ds → DpAll K H' vs ds
  | [], _, h => by cases h; exact .nil
  | d :: ds, _, h => by
    cases h with
    | cons a b => exact .cons (dp_mono e d _ a) (dpAll_mono e ds _ b)
end
theorem Same.new {H : Hp} {p : Addr} {o : HO} (h : H p = none) : Same H (upd H p o) := Evl.Ex.new h
theorem sz2 : 2 ≤ sizeLine := by decide
theorem dpAll_len {K : PySem.W.Frag} {H : Hp} : ∀ {ds : List PyData} {vs : List V}, DpAll K H vs ds → vs.length = ds.length
  | _, _, .nil => rfl
  | _, _, .cons _ b => congrArg (· + 1) (dpAll_len b)
theorem dpAll_at {K : PySem.W.Frag} {H : Hp} : ∀ {ds : List PyData} {vs : List V} {i : Nat} {v : V}, DpAll K H vs ds → vs[i]? = some v → ∃ d, ds[i]? = some d ∧ Dp K H v d
  | _, _, _, _, .nil, h => by simp at h
  | _, _, 0, _, .cons a _, h => by simp at h; subst h; exact ⟨_, rfl, a⟩
  | _, _, i + 1, v, .cons _ b, h => by
    obtain ⟨d, h1, h2⟩ := dpAll_at (i := i) (v := v) b (by simpa using h)
    exact ⟨d, by simpa using h1, h2⟩
theorem dp_ty {K : PySem.W.Frag} {H : Hp} {v : V} {d : PyData} (h : Dp K H v d) : TyX K H v (tyD d) := by
  cases h with
  | non => exact .base .non
  | bl b => exact .base (.bl b)
  | int i => exact .base (.int i)
  | str x => exact .base (.str x)
  | lst s a =>
    rcases s with (s | ⟨o, s⟩) | ⟨o, its, n, s, c, _⟩
    · exact .base (.lst s)
    · exact .base (.frz s)
    · exact .kList s c
  | tup s a =>
    rcases s with (s | ⟨o, s⟩) | ⟨o, its, n, s, c, _⟩
    · exact .base (.tup s)
    · exact .fTuple s
    · exact .kTuple s c
theorem walk_zipT {K : PySem.W.Frag} {a b : Addr} {xs ys : List V} {n : Nat} (hn : n = min xs.length ys.length) : Walk (RZ.ItzT K a b) n (fun H => SqT K H a xs ∧ SqT K H b ys) (YPair (fun i => xs[i]?) (fun i => ys[i]?)) := by
  subst hn
  constructor
  · intro i H hi q
    have h1 : i < xs.length := by omega
    have h2 : i < ys.length := by omega
    exact ⟨xs, ys, xs[i], ys[i], q.1, q.2, by simp [h1], by simp [h2]⟩
  · intro H q
    exact ⟨xs, ys, q.1, q.2, by omega⟩
  · intro i H v H' _ q y
    obtain ⟨T, x, z, h1, h2, h3, h4, h5⟩ := y
    exact ⟨T, x, z, h1, h2, h3, h4 xs q.1, h5 ys q.2⟩
def isBoolD : PyData → Bool
  | .bool _ => true
  | _ => false
def isIntD : PyData → Bool
  | .bool _ => true
  | .int _ => true
  | _ => false
def isStrD : PyData → Bool
  | .str _ => true
  | _ => false
def isListD : PyData → Bool
  | .list _ => true
  | _ => false
def isTupD : PyData → Bool
  | .tuple _ => true
  | _ => false
theorem kit_bool {K : PySem.W.Frag} (d : PyData) : PySem.W.kitOne K (tyD d) (.type "bool") = some (isBoolD d) := by cases d <;> first | exact kit_ty (show kitB _ _ = some true by decide +kernel) | exact kit_ty (show kitB _ _ = some false by decide +kernel)
theorem kit_int {K : PySem.W.Frag} (d : PyData) : PySem.W.kitOne K (tyD d) (.type "int") = some (isIntD d) := by cases d <;> first | exact kit_ty (show kitB _ _ = some true by decide +kernel) | exact kit_ty (show kitB _ _ = some false by decide +kernel)
theorem kit_str {K : PySem.W.Frag} (d : PyData) : PySem.W.kitOne K (tyD d) (.type "str") = some (isStrD d) := by cases d <;> first | exact kit_ty (show kitB _ _ = some true by decide +kernel) | exact kit_ty (show kitB _ _ = some false by decide +kernel)
theorem kit_list {K : PySem.W.Frag} (d : PyData) : PySem.W.kitOne K (tyD d) (.type "list") = some (isListD d) := by cases d <;> first | exact kit_ty (show kitB _ _ = some true by decide +kernel) | exact kit_ty (show kitB _ _ = some false by decide +kernel)
theorem kit_tup {K : PySem.W.Frag} (d : PyData) : PySem.W.kitOne K (tyD d) (.type "tuple") = some (isTupD d) := by cases d <;> first | exact kit_ty (show kitB _ _ = some true by decide +kernel) | exact kit_ty (show kitB _ _ = some false by decide +kernel)
theorem kit_lt {K : PySem.W.Frag} (d : PyData) : PySem.W.kitAny K (tyD d) [.type "list", .type "tuple"] = some (isListD d || isTupD d) :=
  kitAny_cons (kit_list d) (fun _ => kitAny_cons (kit_tup d) (fun h => by rw [kitAny_nil, h]; cases e : isListD d <;> simp_all) (fun h => by rw [h, Bool.or_true])) (fun h => by rw [h, Bool.true_or])
/-- equal data are told to be the same -/
def spSame (K : PySem.W.Frag) : Nat → Sp
  | 0 => fun _ _ _ _ => False
  | n + 1 => fun vs H Q _ => ∃ (x y : V) (d : PyData), vs = [x, y] ∧ Dp K H x d ∧ Dp K H y d ∧ okD n d = true ∧ ∀ H', Same H H' → Q (.bl true) H'
structure TxtS (K : PySem.W.Frag) (mg : Str → Option Value) (fS : Addr) : Prop where
  len : mg "len" = none
  isinstance : mg "isinstance" = none
  bool : mg "bool" = none
  int : mg "int" = none
  str : mg "str" = none
  list : mg "list" = none
  tuple : mg "tuple" = none
  all : mg "all" = none
  zip : mg "zip" = none
  g_same : mg "_law_same" = some (.ref fS)
  k_same : PySem.W.keepIn K (.ref fS) = true
section
variable {P : Program} {w : World} {K : PySem.W.Frag} {mg : Str → Option Value} {base : Heap}
/-- the list of a comprehension over pairs, each told True -/
theorem same_all {K : PySem.W.Frag} {m : Nat} {D : Addr} {xs ys : List V} {ds : List PyData} {J : It} {H : Hp} {G : Hp → Prop} {Qd : Hp → Prop} {σ : L2.St} (hσ : ∀ u v : V, (((wipe σ [2, 3]).set 2 (some u)).set 3 (some v))[2]? = some (some u) ∧ (((wipe σ [2, 3]).set 2 (some u)).set 3 (some v))[3]? = some (some v) ∧ wipe (((wipe σ [2, 3]).set 2 (some u)).set 3 (some v)) [2, 3] = wipe σ [2, 3])
    (w : Walk J ds.length G (YPair (fun i => xs[i]?) (fun i => ys[i]?))) (hG : ∀ H', Same H H' → G H') (hD : H D = none) (hx : DpAll K H xs ds) (hy : DpAll K H ys ds) (hl : ds.length ≤ 1000) (ok : ds.all (okD m) = true)
    (q : ∀ H', Same H H' → H' D = some (.lst ((List.replicate ds.length true).map V.bl)) → Qd H') :
    ∃ W : Nat → Nat → Hp → Prop, (∃ m, W 0 m (upd H D (.lst []))) ∧ ∀ i m' H, W i m' H →
      (J.stop i H ∧ Qd H) ∨ (J.go i H ∧ ∃ Nx : Hp → Prop, (∀ H', Nx H' → ∃ m'', m'' < m' ∧ W (i + 1) m'' H') ∧ ∀ x H', J.yld i H x H' → gTup K 2 (gCons (gName 2) (gCons (gName 3) gNil)) x (wipe σ [2, 3]) H' fun σ2 H2 => wipe σ2 [2, 3] = wipe σ [2, 3] ∧ tYes σ2 H2 fun b H3 =>
        if b = true then tCall (spSame K (m + 1)) [] E0 (tCons (tVar 2) (tCons (tVar 3) tNil)) σ2 H3 fun y H4 => ∃ acc, H4 D = some (.lst acc) ∧ acc.length < sizeLine ∧ Nx (upd H4 D (.lst (acc ++ [y]))) else Nx H3) := by
  refine lc_it w (fun i H' => Same H H' ∧ H' D = some (.lst ((List.replicate i true).map V.bl))) ⟨fun c o e => by rw [upd_ne (ne_of_none e hD)]; exact e, upd_same⟩ (fun i H' _ p => hG H' p.1) ?_ (fun H' p => q H' p.1 p.2)
  rintro i v H1 H2 hi ⟨s1, hd1⟩ ⟨T, x, y, rfl, nT, rfl, hxi, hyi⟩
  have sT : Same H1 (upd H1 T (.tup [x, y])) := fun c o e => by rw [upd_ne (ne_of_none e nT)]; exact e
  have s2 : Same H (upd H1 T (.tup [x, y])) := s1.trans sT
  obtain ⟨d1, e1, dx⟩ := dpAll_at hx hxi
  obtain ⟨d2, e2, dy⟩ := dpAll_at hy hyi
  rw [e1] at e2
  cases e2
  have okd : okD m d1 = true := (List.all_eq_true.mp ok) d1 (List.mem_of_getElem? e1)
  obtain ⟨g2, g3, gw⟩ := hσ x y
  refine ⟨T, _, rfl, .inl (.inl upd_same), rfl, ⟨x, _, rfl, ⟨y, _, rfl, ⟨rfl, gw, ?_⟩⟩⟩⟩
  refine ⟨x, g2, y, g3, x, y, d1, rfl, dp_mono s2 _ _ dx, dp_mono s2 _ _ dy, okd, fun H3 s3 => ?_⟩
  have hd3 : H3 D = some (.lst ((List.replicate i true).map V.bl)) := s3 _ _ (sT _ _ hd1)
  refine ⟨_, hd3, ?_, fun c o e => ?_, ?_⟩
  · rw [List.length_map, List.length_replicate]
    exact small1000 (by omega)
  · rw [upd_ne (ne_of_none e hD)]
    exact s3 _ _ (s2 _ _ e)
  · rw [upd_same, List.replicate_succ', List.map_append]
    rfl
end
theorem cut_ints {ns : List Int} {lo hi : Option Int} : ∃ ms : List Int, cutV (ns.map V.int) lo hi = ms.map V.int := by
  refine ⟨(ns.drop (HT.sIx (ns.map V.int).length 0 lo)).take (HT.sIx (ns.map V.int).length (ns.map V.int).length hi - HT.sIx (ns.map V.int).length 0 lo), ?_⟩
  unfold cutV
  rw [← List.map_drop, ← List.map_take]
theorem sqL_upd {K : PySem.W.Frag} {H : Hp} {b t : Addr} {o : HO} {xs : List V} (ne : t ≠ b) (h : SqL K H t xs) : SqL K (upd H b o) t xs := by
  rcases h with (h | ⟨ob, h⟩) | h
  · exact .inl (.inl (by rw [upd_ne ne]; exact h))
  · exact .inl (.inr ⟨ob, by rw [upd_ne ne]; exact h⟩)
  · exact .inr h
def spBag (K : PySem.W.Frag) : Sp := fun vs H Q _ => ∃ (a : Addr) (ns : List Int), vs = [.ref a] ∧ SqL K H a (ns.map V.int) ∧ ∀ (b : Addr) (H' : Hp), H b = none → Same H H' → Bag H' b → Q (.ref b) H'
def spOf (K : PySem.W.Frag) : Sp := fun vs H Q _ => ∃ (b t : Addr) (xs : List V), vs = [.ref b, .ref t] ∧ Bag H b ∧ SqL K H t xs ∧ t ≠ b ∧ 0 < xs.length ∧ xs.length < 1000 ∧
  ∀ (j : Nat) (v : V) (o : HO), xs[j]? = some v → Bag (upd H b o) b → Q v (upd H b o)
structure TxtP (K : PySem.W.Frag) (mg : Str → Option Value) (fP : Addr) : Prop where
  len : mg "len" = none
  g_pull : mg "_law_pull" = some (.ref fP)
  k_pull : PySem.W.keepIn K (.ref fP) = true
section
variable {P : Program} {w : World} {K : PySem.W.Frag} {mg : Str → Option Value} {base : Heap}
end
/-! ### what an error has beside its code -/
def otherName (c : Str) : Option Str := if V.str c = .str "InvalidFact" then some "what" else if V.str c = .str "InvalidRow" then some "index" else if V.str c = .str "InvalidPage" then some "line" else if V.str c = .str "UnlikeWorlds" then none else some "deed"
def fieldName (c : Str) : Option Str :=
  if inV (.str c) [.str "InvalidName", .str "InvalidNumber"] = true then some "given" else if inV (.str c) [.str "InvalidText", .str "WrongKind", .str "InvalidBlank"] = true then some "at"
  else if inV (.str c) [.str "NameTaken", .str "InvalidWitness", .str "UnknownName"] = true then some "name" else if V.str c = .str "TooLarge" then none else otherName c
/-- an error with the code c and the value v of the field fn is told by its field -/
structure ErrAt (K : PySem.W.Frag) (cls : Value) (d : Option Addr) (H : Hp) (c fn : Str) (v : V) : Prop where
  ex : ∃ (C dd : Addr) (fs : List (Str × V)), cls = .ref C ∧ XfC K C ∧ PySem.W.findIn K (.ref C) "code" = some none ∧ PySem.W.findIn K (.ref C) fn = some none ∧ d = some dd ∧ H dd = some (.xd fs) ∧ fs.lookup ("code" : Str) = some (V.str c) ∧ fs.lookup fn = some v
def spOther (K : PySem.W.Frag) : SpE := fun a cls d vs H Q => ∃ (c fn : Str) (v : V), vs = [.ref a] ∧ ErrAt K cls d H c fn v ∧ otherName c = some fn ∧ Q v H
def spField (K : PySem.W.Frag) : SpE := fun a cls d vs H Q => ∃ (c fn : Str) (v : V), vs = [.ref a] ∧ ErrAt K cls d H c fn v ∧ fieldName c = some fn ∧ ∀ H', Same H H' → Q v H'
structure TxtF (K : PySem.W.Frag) (mg : Str → Option Value) (fO : Addr) : Prop where
  g_ofield : mg "_law_other_field" = some (.ref fO)
  k_ofield : PySem.W.keepIn K (.ref fO) = true
section
variable {P : Program} {w : World} {K : PySem.W.Frag} {mg : Str → Option Value} {base : Heap}
end
/-! ### errors made -/
/-- the __init__ of an error with one field fn beside its code c -/
def spErr1 (C : Addr) (c fn : Str) : Sp := fun vs H Q _ => ∃ (a : Addr) (v : V), vs = [.ref a, v] ∧ H a = some (exo a C none) ∧
  ∀ (d : Addr) (H' : Hp), H d = none → d ≠ a → H' a = some (exo a C (some d)) → H' d = some (exd d [(fn, v), ("code", .str c)]) → (∀ b, b ≠ a → b ≠ d → H' b = H b) → Q .non H'
/-- the heap behind a raise: the error's dict beside what stood -/
theorem raised_heap {H H2 : Hp} {a d : Addr} {fs : List (Str × V)} (ha : H a = none) (hd : H d = none) (e : ∀ b, b ≠ a → b ≠ d → H2 b = upd H a (exo a 0 none) b) : upd (del H2 a) d (.xd fs) = upd H d (.xd fs) := by
  funext b
  by_cases hb : b = d
  · rw [hb, upd_same, upd_same]
  · rw [upd_ne hb, upd_ne hb]
    by_cases hba : b = a
    · rw [hba, del_same, ha]
    · rw [del_ne hba, e b hba hb, upd_ne hba]
/-- what the top says of an error class -/
structure ErrC (K : PySem.W.Frag) (mg : Str → Option Value) (nm fn : Str) (C fI : Addr) : Prop where
  x : OexC K C
  i : PySem.W.findIn K (.ref C) "__init__" = some (some (.ref fI))
  t : PySem.W.typeIn K (.ref fI) = some (.type "function")
  g : mg nm = some (.ref C)
  nc : PySem.W.findIn K (.ref C) "code" = some none
  nf : PySem.W.findIn K (.ref C) fn = some none
  xf : XfC K C
section
variable {P : Program} {w : World} {K : PySem.W.Frag} {mg : Str → Option Value} {base : Heap}
end
/-- a loop of a comprehension: B is what a turn asks -/
theorem turns_it {J : It} {n : Nat} {G : Hp → Prop} {Y : Nat → Hp → V → Hp → Prop} (w : Walk J n G Y) {Hs : Hp} {Qd : Hp → Prop} {B : (Hp → Prop) → V → Hp → Prop} (Pv : Nat → Hp → Prop) (h0 : Pv 0 Hs) (hG : ∀ i H, i ≤ n → Pv i H → G H)
    (hs : ∀ i x H H', i < n → Pv i H → Y i H x H' → B (Pv (i + 1)) x H') (hd : ∀ H, Pv n H → Qd H) :
    ∃ W : Nat → Nat → Hp → Prop, (∃ m, W 0 m Hs) ∧ ∀ i m H, W i m H → (J.stop i H ∧ Qd H) ∨ (J.go i H ∧ ∃ Nx : Hp → Prop, (∀ H', Nx H' → ∃ m', m' < m ∧ W (i + 1) m' H') ∧ ∀ x H', J.yld i H x H' → B Nx x H') := by
  refine ⟨fun i m H => m = n - i ∧ i ≤ n ∧ Pv i H, ⟨n, rfl, Nat.zero_le _, h0⟩, ?_⟩
  rintro i m H ⟨rfl, hi, p⟩
  by_cases c : i < n
  · exact .inr ⟨w.goes i H c (hG i H hi p), Pv (i + 1), fun H' p' => ⟨n - (i + 1), by omega, rfl, c, p'⟩, fun x H' y => hs i x H H' c p (w.yields i H x H' c (hG i H hi p) y)⟩
  · obtain rfl : i = n := by omega
    exact .inl ⟨w.stops H (hG i H hi p), hd H p⟩
theorem Same.make {H : Hp} {x dx : Addr} {o u : HO} (hx : H x = none) (hd : H dx = none) : Same H (upd (upd H dx o) x u) := fun b q e => by rw [upd_ne (ne_of_none e hx), upd_ne (ne_of_none e hd)]; exact e
/-- what _law_why makes of the reading tl of the lambda: the pair of "value" and what it gives, or the pair of an error's code and its field -/
def TTwhy (K : PySem.W.Frag) (CS CM : Addr) : (XK → Hp → VK → Prop) → Hp → VK → Prop := fun tl H Q =>
  tl (fun cls d H' => ∃ (c fn : Str) (v : V), PySem.W.exmAny K cls [.ref CS, .ref CM] = some true ∧ ErrAt K cls d H' c fn v ∧ fieldName c = some fn ∧ ∀ (p : Addr) (H2 : Hp), H' p = none → Same H' H2 → H2 p = some (.tup [.str c, v]) → Q (.ref p) H2) H
    (fun v H' => ([V.str "value", v] : List V).length ≤ sizeLine ∧ ∀ p, H' p = none → Q (.ref p) (upd H' p (.tup [.str "value", v])))
structure TxtW (K : PySem.W.Frag) (mg : Str → Option Value) (CS CM fF : Addr) : Prop where
  g_SlopeError : mg "SlopeError" = some (.ref CS)
  g_Missing : mg "Missing" = some (.ref CM)
  g_field : mg "_law_field" = some (.ref fF)
  k_field : PySem.W.keepIn K (.ref fF) = true
theorem int_dec (k j : Nat) : decide (V.int (k : Int) = V.int (j : Int)) = decide (k = j) := by
  by_cases h : k = j
  · rw [decide_eq_true h, h]
    exact decide_eq_true rfl
  · rw [decide_eq_false h]
    exact decide_eq_false fun z => h (by have := V.int.inj z; omega)
theorem nf_self {K : PySem.W.Frag} {C : Addr} : PySem.W.notFirst K C (.ref C) = true := by
  unfold PySem.W.notFirst
  simp
theorem Bag.lst {H : Hp} {b : Addr} (h : Bag H b) : ∃ ys, H b = some (.lst ys) := let ⟨_, _, _, _, _, h, _⟩ := h; ⟨_, h⟩
theorem dpAll_of {K : PySem.W.Frag} {H : Hp} {f : Nat → PyData} : ∀ (xs : List Addr) (n0 : Nat), (∀ (i : Nat) (t : Addr), xs[i]? = some t → Dp K H (.ref t) (f (n0 + i))) → DpAll K H (xs.map V.ref) ((List.range' n0 xs.length).map f)
  | [], _, _ => .nil
  | x :: xs, n0, h => .cons (h 0 x rfl) (dpAll_of xs (n0 + 1) fun i t z => by
      have := h (i + 1) t z
      rw [show n0 + 1 + i = n0 + (i + 1) by omega]
      exact this)
theorem sqL_ext {K : PySem.W.Frag} {H H' : Hp} (e : LamX.ExtN H H') {a : Addr} {xs : List V} (h : SqL K H a xs) : SqL K H' a xs := by
  rcases h with (h | ⟨ob, h⟩) | h
  · exact .inl (.inl (e _ _ h fun _ z => nomatch z))
  · exact .inl (.inr ⟨ob, e _ _ h fun _ z => nomatch z⟩)
  · exact .inr h
theorem sqT_ext {K : PySem.W.Frag} {H H' : Hp} (e : LamX.ExtN H H') {a : Addr} {xs : List V} (h : SqT K H a xs) : SqT K H' a xs := by
  rcases h with (h | ⟨ob, h⟩) | h
  · exact .inl (.inl (e _ _ h fun _ z => nomatch z))
  · exact .inl (.inr ⟨ob, e _ _ h fun _ z => nomatch z⟩)
  · exact .inr h
theorem ok_pair {d : PyData} (h : okD 2 d = true) (c : Str) : okD 3 (.tuple [.str c, d]) = true := by
  unfold okD
  rw [List.all_cons, List.all_cons, List.all_nil, h]
  rfl
mutual
theorem dp_ext {K : PySem.W.Frag} {H H' : Hp} (e : LamX.ExtN H H') : ∀ (d : PyData) (v : V), Dp K H v d → Dp K H' v d
  | .none, _, h => by cases h; exact .non
  | .bool b, _, h => by cases h; exact .bl b
  | .int i, _, h => by cases h; exact .int i
  | .str x, _, h => by cases h; exact .str x
  | .list ds, _, h => by
    cases h with
    | lst s a => exact .lst (sqL_ext e s) (dpAll_ext e ds _ a)
  | .tuple ds, _, h => by
    cases h with
    | tup s a => exact .tup (sqT_ext e s) (dpAll_ext e ds _ a)
  | .dict _, _, h => nomatch h
theorem dpAll_ext {K : PySem.W.Frag} {H H' : Hp} (e : LamX.ExtN H H') : ∀ (ds : List PyData) (vs : List V), DpAll K H vs ds → DpAll K H' vs ds
  | [], _, h => by cases h; exact .nil
  | d :: ds, _, h => by
    cases h with
    | cons a b => exact .cons (dp_ext e d _ a) (dpAll_ext e ds _ b)
end
theorem hu65 {A : Around} {k : Nat} (hr : Room k A) : A.units + 65 < cLine := by have := hr.un; omega
theorem hu64 {A : Around} {k : Nat} (hr : Room k A) : A.units + 64 < cLine := by have := hr.un; omega
theorem szle {n : Nat} (h : n ≤ 100000) : n ≤ sizeLine := Evl.sz_of h
theorem kit_self {K : PySem.W.Frag} {C : Addr} : PySem.W.kitOne K (.ref C) (.ref C) = some true := by
  unfold PySem.W.kitOne
  rw [if_pos (by simp)]
end Mine
namespace Mine
open PySem PySem.Spec PyProof.Rows L2
/-! ### fractions in lowest terms, plainly -/
def sgcd (n d : Int) : Int := if d < 0 then -((Nat.gcd n.natAbs d.natAbs : Nat) : Int) else ((Nat.gcd n.natAbs d.natAbs : Nat) : Int)
def low (n d : Int) : Int × Int := (n.fdiv (sgcd n d), d.fdiv (sgcd n d))
theorem sgcd_ne {n d : Int} (h : d ≠ 0) : sgcd n d ≠ 0 := by
  have : 0 < Nat.gcd n.natAbs d.natAbs := Nat.gcd_pos_of_pos_right _ (by omega)
  unfold sgcd
  split <;> omega
theorem sgcd_abs (n d : Int) : (sgcd n d).natAbs = Nat.gcd n.natAbs d.natAbs := by
  unfold sgcd
  split <;> omega
theorem sgcd_dvdl (n d : Int) : sgcd n d ∣ n := by
  rw [← Int.natAbs_dvd_natAbs, sgcd_abs]
  exact Nat.gcd_dvd_left _ _
theorem sgcd_dvdr (n d : Int) : sgcd n d ∣ d := by
  rw [← Int.natAbs_dvd_natAbs, sgcd_abs]
  exact Nat.gcd_dvd_right _ _
/-- in lowest terms -/
def Lo (n d : Int) : Prop := 0 < d ∧ Nat.gcd n.natAbs d.natAbs = 1
theorem low_mul {n d : Int} (h : d ≠ 0) : (low n d).1 * sgcd n d = n ∧ (low n d).2 * sgcd n d = d := by
  have e1 := sgcd_dvdl n d
  have e2 := sgcd_dvdr n d
  unfold low
  exact ⟨by rw [Int.fdiv_eq_ediv_of_dvd e1]; exact Int.ediv_mul_cancel e1, by rw [Int.fdiv_eq_ediv_of_dvd e2]; exact Int.ediv_mul_cancel e2⟩
theorem low_lo {n d : Int} (h : d ≠ 0) : Lo (low n d).1 (low n d).2 := by
  obtain ⟨h1, h2⟩ := low_mul (n := n) h
  have hs := sgcd_ne (n := n) h
  have ha := sgcd_abs n d
  refine ⟨?_, ?_⟩
  · rcases Int.lt_trichotomy (low n d).2 0 with c | c | c
    · exfalso
      unfold sgcd at h2 hs
      split at h2
      · rename_i hd
        have g0 : (0 : Int) < ((Nat.gcd n.natAbs d.natAbs : Nat) : Int) := by
          have : 0 < Nat.gcd n.natAbs d.natAbs := Nat.gcd_pos_of_pos_right _ (by omega)
          omega
        have : 0 < (low n d).2 * -((Nat.gcd n.natAbs d.natAbs : Nat) : Int) := Int.mul_pos_of_neg_of_neg c (by omega)
        omega
      · rename_i hd
        have g0 : (0 : Int) < ((Nat.gcd n.natAbs d.natAbs : Nat) : Int) := by
          have : 0 < Nat.gcd n.natAbs d.natAbs := Nat.gcd_pos_of_pos_right _ (by omega)
          omega
        have : (low n d).2 * ((Nat.gcd n.natAbs d.natAbs : Nat) : Int) < 0 := Int.mul_neg_of_neg_of_pos c g0
        omega
    · exfalso
      rw [c, Int.zero_mul] at h2
      exact h h2.symm
    · exact c
  · have g0 : 0 < Nat.gcd n.natAbs d.natAbs := Nat.gcd_pos_of_pos_right _ (by omega)
    have e1 : (low n d).1.natAbs * Nat.gcd n.natAbs d.natAbs = n.natAbs := by rw [← ha, ← Int.natAbs_mul, h1]
    have e2 : (low n d).2.natAbs * Nat.gcd n.natAbs d.natAbs = d.natAbs := by rw [← ha, ← Int.natAbs_mul, h2]
    have e3 : Nat.gcd ((low n d).1.natAbs * Nat.gcd n.natAbs d.natAbs) ((low n d).2.natAbs * Nat.gcd n.natAbs d.natAbs) = Nat.gcd n.natAbs d.natAbs := by rw [e1, e2]
    rw [Nat.gcd_mul_right] at e3
    exact Nat.eq_of_mul_eq_mul_right g0 (by rw [e3, Nat.one_mul])
theorem low_of {n d : Int} (h : Lo n d) : low n d = (n, d) := by
  have e : sgcd n d = 1 := by
    unfold sgcd
    rw [h.2, if_neg (by have := h.1; omega)]
    rfl
  unfold low
  rw [e, Int.fdiv_one, Int.fdiv_one]
theorem low_le {n d : Int} (h : d ≠ 0) : (low n d).1.natAbs ≤ n.natAbs ∧ (low n d).2.natAbs ≤ d.natAbs := by
  obtain ⟨h1, h2⟩ := low_mul (n := n) h
  have hs : 0 < (sgcd n d).natAbs := by have := sgcd_ne (n := n) h; omega
  have e1 : (low n d).1.natAbs * (sgcd n d).natAbs = n.natAbs := by rw [← Int.natAbs_mul, h1]
  have e2 : (low n d).2.natAbs * (sgcd n d).natAbs = d.natAbs := by rw [← Int.natAbs_mul, h2]
  exact ⟨by rw [← e1]; exact Nat.le_mul_of_pos_right _ hs, by rw [← e2]; exact Nat.le_mul_of_pos_right _ hs⟩
theorem lo_one (i : Int) : Lo i 1 := ⟨by decide, by simp⟩
theorem lo_neg {n d : Int} (h : Lo n d) : Lo (-n) d := ⟨h.1, by rw [Int.natAbs_neg]; exact h.2⟩
theorem lo_abs {n d : Int} (h : Lo n d) : Lo (if n < 0 then -n else n) d := by
  split
  · exact lo_neg h
  · exact h
/-! ### fractions in the heap -/
def ratF (n d : Int) : List (Str × V) := [("top", .int n), ("bottom", .int d)]
theorem ratF_top (n d : Int) : (ratF n d).lookup ("top" : Str) = some (.int n) := by
  unfold ratF
  rw [lookup_put, if_pos rfl]
theorem ratF_bottom (n d : Int) : (ratF n d).lookup ("bottom" : Str) = some (.int d) := by
  unfold ratF
  rw [lookup_put, if_neg (by decide +kernel), lookup_put, if_pos rfl]
theorem ratF_no (n d : Int) {m : Str} (h1 : ¬ m = "top") (h2 : ¬ m = "bottom") : (ratF n d).lookup m = none := by
  unfold ratF
  rw [lookup_put, if_neg h1, lookup_put, if_neg h2]
  rfl
theorem put_rat (n d : Int) : putF "bottom" (.int d) (putF "top" (.int n) []) = ratF n d := by
  show (if ("top" : Str) = "bottom" then _ else _) = _
  rw [if_neg (by decide +kernel)]
  rfl
def RatAt (C : Addr) (H : Hp) (a : Addr) (n d : Int) : Prop := ∃ dx, H a = some (.ins C dx (ratF n d))
theorem RatAt.mono {C : Addr} {H H' : Hp} {a : Addr} {n d : Int} (h : RatAt C H a n d) (e : Same H H') : RatAt C H' a n d := let ⟨dx, z⟩ := h; ⟨dx, e _ _ z⟩
/-- what a value is to the fractions -/
inductive Kr where
  | i (z : Int) | r (n d : Int) | no
def Kr.isI : Kr → Bool
  | .i _ => true
  | _ => false
def Kr.isN : Kr → Bool
  | .no => false
  | _ => true
def Kr.top : Kr → Int
  | .i z => z
  | .r n _ => n
  | .no => 0
def Kr.bot : Kr → Int
  | .i _ => 1
  | .r _ d => d
  | .no => 1
def wholeD : PyData → Bool
  | .int _ => true
  | _ => false
inductive KindR (K : PySem.W.Frag) (C : Addr) (H : Hp) : V → Kr → Prop where
  | int (z : Int) : KindR K C H (.int z) (.i z)
  | rat {a : Addr} {n d : Int} (h : RatAt C H a n d) : KindR K C H (.ref a) (.r n d)
  | dat {v : V} {d : PyData} (h : Dp K H v d) (w : wholeD d = false) : KindR K C H v .no
theorem KindR.mono {K : PySem.W.Frag} {C : Addr} {H H' : Hp} {v : V} {k : Kr} (h : KindR K C H v k) (e : Same H H') : KindR K C H' v k := by
  cases h with
  | int z => exact .int z
  | rat h => exact .rat (h.mono e)
  | dat h w => exact .dat (dp_mono e _ _ h) w
/-- numbers of less than k bits -/
def Bt (k : Nat) (n : Int) : Prop := n.natAbs < 2 ^ k
theorem Bt.mono {k l : Nat} {n : Int} (h : Bt k n) (e : k ≤ l) : Bt l n := Nat.lt_of_lt_of_le h (Nat.pow_le_pow_right (by decide) e)
theorem Bt.mul {k l : Nat} {n m : Int} (h : Bt k n) (g : Bt l m) : Bt (k + l) (n * m) := wide_lt h g
theorem Bt.add {k : Nat} {n m : Int} (h : Bt k n) (g : Bt k m) : Bt (k + 1) (n + m) := by
  unfold Bt at *
  rw [Nat.pow_succ]
  omega
theorem Bt.neg {k : Nat} {n : Int} (h : Bt k n) : Bt k (-n) := by
  unfold Bt at *
  rw [Int.natAbs_neg]
  exact h
theorem Bt.abs {k : Nat} {n : Int} (h : Bt k n) : Bt k (if n < 0 then -n else n) := by
  split
  · exact h.neg
  · exact h
theorem Bt.one {k : Nat} (h : 0 < k) : Bt k 1 := by
  unfold Bt
  exact Nat.one_lt_two_pow (by omega)
theorem Bt.low {k l : Nat} {n d : Int} (h : Bt k n) (g : Bt l d) (z : d ≠ 0) : Bt k (low n d).1 ∧ Bt l (low n d).2 := ⟨Nat.lt_of_le_of_lt (low_le z).1 h, Nat.lt_of_le_of_lt (low_le z).2 g⟩
theorem Bt.cm {k l : Nat} {n m : Int} (h : Bt k n) (g : Bt l m) (h0 : 0 < k) (h1 : 0 < l) (e : k + l ≤ 1000000) : CMulW n m := wide_mul h g h0 h1 e
theorem sgcd_cd {n d : Int} {k : Nat} (h : d ≠ 0) (g : Bt k d) (h0 : 0 < k) (h1 : k ≤ 9000) (i : Int) : CDivG i (sgcd n d) := by
  refine ⟨sgcd_ne h, ?_⟩
  rw [sgcd_abs]
  have e : Nat.gcd n.natAbs d.natAbs ≤ d.natAbs := Nat.gcd_le_right _ (by omega)
  exact Nat.lt_of_lt_of_le (PySem.Flt.log2_lt_of h0 (Nat.lt_of_le_of_lt e g)) h1
/-! ### promises -/
def spWhole (K : PySem.W.Frag) (C : Addr) : Sp := fun vs H Q _ => ∃ v k, vs = [v] ∧ KindR K C H v k ∧ Q (.bl k.isI) H
def spNumber (K : PySem.W.Frag) (C : Addr) : Sp := fun vs H Q _ => ∃ v k, vs = [v] ∧ KindR K C H v k ∧ Q (.bl k.isN) H
/-- a new fraction -/
def NewRat (C : Addr) (H : Hp) (Q : VK) (n d : Int) : Prop := ∀ (p : Addr) (H' : Hp), H p = none → Same H H' → RatAt C H' p n d → Q (.ref p) H'
def invD (v : V) : HO := .xd [("given", v), ("code", .str "InvalidNumber")]
def Inval (C : Addr) (H : Hp) (E : XK) (v : V) : Prop := ∀ e, H e = none → E (.ref C) (some e) (upd H e (invD v))
def spRat (K : PySem.W.Frag) (C CE : Addr) : Sp := fun vs H Q E => ∃ (a dx : Addr) (x y : V) (kx ky : Kr), vs = [.ref a, x, y] ∧ H a = some (.ins C dx []) ∧ KindR K C H x kx ∧ KindR K C H y ky ∧
  (∀ n d, kx = .i n → ky = .i d → d ≠ 0 → Bt 8000 n ∧ Bt 8000 d ∧ Q .non (upd H a (.ins C dx (ratF (low n d).1 (low n d).2)))) ∧
  (kx.isI = false → Inval CE H E x) ∧ (kx.isI = true → (ky.isI = false ∨ ky = .i 0) → Inval CE H E y)
def spRof (K : PySem.W.Frag) (C CE : Addr) : Sp := fun vs H Q E => ∃ (v : V) (k : Kr), vs = [v] ∧ KindR K C H v k ∧
  (∀ n d, k = .r n d → Q v H) ∧ (∀ z, k = .i z → Bt 8000 z ∧ NewRat C H Q z 1) ∧ (k = .no → Inval CE H E v)
/-- an operation of a fraction and a number -/
def spBin (K : PySem.W.Frag) (C : Addr) (f : Int → Int → Int → Int → Int × Int) : Sp := fun vs H Q _ => ∃ (a : Addr) (n d : Int) (y : V) (k : Kr), vs = [.ref a, y] ∧ RatAt C H a n d ∧ KindR K C H y k ∧ k.isN = true ∧ Lo n d ∧ Lo k.top k.bot ∧ Bt 1000 n ∧ Bt 1000 d ∧ Bt 1000 k.top ∧ Bt 1000 k.bot ∧
  NewRat C H Q (low (f n d k.top k.bot).1 (f n d k.top k.bot).2).1 (low (f n d k.top k.bot).1 (f n d k.top k.bot).2).2
def fAdd (n d m e : Int) : Int × Int := (n * e + m * d, d * e)
def fSub (n d m e : Int) : Int × Int := fAdd n d (-m) e
def fRsub (n d m e : Int) : Int × Int := fAdd m e (-n) d
def fMul (n d m e : Int) : Int × Int := (n * m, d * e)
def spUn (C : Addr) (f : Int → Int) : Sp := fun vs H Q _ => ∃ (a : Addr) (n d : Int), vs = [.ref a] ∧ RatAt C H a n d ∧ Lo n d ∧ Bt 7000 n ∧ Bt 7000 d ∧ NewRat C H Q (f n) d
/-! ### what the top says of the fractions -/
structure RatC (K : PySem.W.Frag) (mg : Str → Option Value) (C CE fE fW fN fO : Addr) : Prop where
  cl : Cls K C
  nT : NoAttr K C "top"
  nB : NoAttr K C "bottom"
  tyi : ∀ (H : Hp) (a dx : Addr) (fs : List (Str × V)), H a = some (.ins C dx fs) → TyX K H (.ref a) (.ref C)
  kd : ∀ d : PyData, PySem.W.kitOne K (tyD d) (.ref C) = some false
  ki : PySem.W.kitOne K (.ref C) (.type "int") = some false
  g_Ratio : mg "Ratio" = some (.ref C)
  g_whole : mg "is_whole" = some (.ref fW)
  k_whole : PySem.W.keepIn K (.ref fW) = true
  g_number : mg "is_number" = some (.ref fN)
  k_number : PySem.W.keepIn K (.ref fN) = true
  g_rof : mg "ratio_of" = some (.ref fO)
  k_rof : PySem.W.keepIn K (.ref fO) = true
  gcd : mg "gcd" = some (.builtin "math.gcd")
  isinstance : mg "isinstance" = none
  int : mg "int" = none
  bool : mg "bool" = none
  abs : mg "abs" = none
  x_InvalidNumber : OexC K CE
  i_InvalidNumber : PySem.W.findIn K (.ref CE) "__init__" = some (some (.ref fE))
  t_InvalidNumber : PySem.W.typeIn K (.ref fE) = some (.type "function")
  g_InvalidNumber : mg "InvalidNumber" = some (.ref CE)
structure RatO (K : PySem.W.Frag) (mg : Str → Option Value) (C CE fE fW fN fO fA gA fS gS fM gM fG fB : Addr) : Prop extends RatC K mg C CE fE fW fN fO where
  o_add : OpC K C "add" fA gA
  o_sub : OpC K C "sub" fS gS
  o_mul : OpC K C "mul" fM gM
  s_neg : Spec K C "__neg__" fG
  s_abs : Spec K C "__abs__" fB
  i_add : PySem.W.findIn K (.type "int") (PySem.dunder "add") = some (some (.builtin "int.__add__"))
  ir_add : PySem.W.findIn K (.type "int") (dunderR "add") = some (some (.builtin "int.__radd__"))
  i_sub : PySem.W.findIn K (.type "int") (PySem.dunder "sub") = some (some (.builtin "int.__sub__"))
  ir_sub : PySem.W.findIn K (.type "int") (dunderR "sub") = some (some (.builtin "int.__rsub__"))
  i_mul : PySem.W.findIn K (.type "int") (PySem.dunder "mul") = some (some (.builtin "int.__mul__"))
  ir_mul : PySem.W.findIn K (.type "int") (dunderR "mul") = some (some (.builtin "int.__rmul__"))
end Mine
namespace Mine
open PySem PySem.Spec PyProof.Rows L2 TL
/-! ### the texts of ints and of fractions -/
theorem str_ext {x y : Str} (h : tl x = tl y) : x = y := by
  cases x with
  | mk a =>
    cases y with
    | mk b =>
      have : a.toList = b.toList := h
      rw [Array.toList_inj.mp this]
theorem ofString_app (a b : String) : Str.ofString (a ++ b) = Str.ofString a ++ Str.ofString b := by
  apply str_ext
  rw [tl_ofString, tl_append, tl_ofString, tl_ofString, String.toList_append, List.map_append]
theorem abs_nat' (z : Int) : (if z < 0 then -z else z) = ((z.natAbs : Nat) : Int) := by split <;> omega
def itext (n : Int) : Str := Str.ofString (toString n)
theorem empty_app (x : Str) : Str.empty ++ x = x := by
  apply str_ext
  rw [tl_append]
  rfl
theorem app_nil (x : Str) : x ++ Str.ofString "" = x := by
  apply str_ext
  rw [tl_append, tl_ofString]
  simp
theorem itext_sign (n : Int) : Str.empty ++ (if n < 0 then ("-" : Str) else "") ++ itext (if n < 0 then -n else n) ++ "" = itext n := by
  rw [empty_app, app_nil]
  unfold itext
  split
  · rename_i h
    rw [toString_neg h, ofString_app, Int.zero_sub]
  · apply str_ext
    rw [tl_append]
    rfl
/-- of less than 60 digits -/
def D60 (n : Int) : Prop := n.natAbs < 10 ^ 60
theorem D60.log {n : Int} (h : D60 n) : n.natAbs.log2 < 1920 := Nat.lt_of_lt_of_le (PySem.Flt.log2_lt_of (k := 200) (by decide) (Nat.lt_of_lt_of_le h (by decide))) (by decide)
theorem D60.abs {n : Int} (h : D60 n) : D60 (if n < 0 then -n else n) := by
  unfold D60 at *
  split
  · rw [Int.natAbs_neg]
    exact h
  · exact h
theorem D60.len {n : Int} (h : D60 n) : (itext n).length ≤ 61 := by
  unfold itext
  rw [ofString_len]
  exact PySem.int_text_length_le10 (by decide) h
def ratText (n d : Int) : Str := if d = 1 then itext n else itext n ++ "/" ++ itext d
def spDig : Sp := fun vs H Q _ => ∃ n : Int, vs = [.int n] ∧ D60 n ∧ Q (.str (itext n)) H
def spRatStr (C : Addr) : Sp := fun vs H Q _ => ∃ (a : Addr) (n d : Int), vs = [.ref a] ∧ RatAt C H a n d ∧ D60 n ∧ D60 d ∧ Q (.str (ratText n d)) H
end Mine
namespace Mine
open PySem PySem.Spec PyProof.Rows L2
/-! ### the facts of an unseen function -/
def vS : Option Str → V
  | none => .non
  | some x => .str x
def vI : Option Int → V
  | none => .non
  | some i => .int i
def dS : Option Str → PyData
  | none => .none
  | some x => .str x
def dI : Option Int → PyData
  | none => .none
  | some i => .int i
theorem dp_vS {K : PySem.W.Frag} {H : Hp} (x : Option Str) : Dp K H (vS x) (dS x) := by cases x; exact .non; exact .str _
theorem dp_vI {K : PySem.W.Frag} {H : Hp} (x : Option Int) : Dp K H (vI x) (dI x) := by cases x; exact .non; exact .int _
structure Fact where
  ar : Int
  mi : Option Str
  n : Int
  d : Int
  de : Option Int
  sw : Option Str
/-- good facts -/
structure FactOk (f : Fact) : Prop where
  ar : f.ar = 1 ∨ f.ar = 2
  mi : f.mi = none ∨ (f.ar = 1 ∧ (f.mi = some "even" ∨ f.mi = some "odd"))
  c0 : f.mi = none → f.n = 0
  de : f.de = none ∨ (f.ar = 1 ∧ (f.de = some 0 ∨ f.de = some 1 ∨ f.de = some 2 ∨ f.de = some 3))
  sw : f.sw = none ∨ (f.ar = 2 ∧ (f.sw = some "same" ∨ f.sw = some "minus"))
  lo : Lo f.n f.d
  n60 : Bt 30 f.n
  d60 : Bt 30 f.d
def miW (n d : Int) : Option Str → List Str
  | none => []
  | some m => [m, ratText n d]
def deW : Option Int → List Str
  | none => []
  | some g => ["degree", itext g]
def swW : Option Str → List Str
  | none => []
  | some x => [x]
theorem miW_len (n d : Int) (m : Option Str) : (miW n d m).length ≤ 2 := by cases m <;> simp [miW]
theorem deW_len (m : Option Int) : (deW m).length ≤ 2 := by cases m <;> simp [deW]
theorem swW_len (m : Option Str) : (swW m).length ≤ 1 := by cases m <;> simp [swW]
def wordsOf (f : Fact) : List Str := [itext f.ar] ++ miW f.n f.d f.mi ++ deW f.de ++ swW f.sw
def factText (f : Fact) : Str := Txt.join " " (wordsOf f)
def unsF (f : Fact) (p : Addr) : List (Str × V) := [("arity", .int f.ar), ("mirror", vS f.mi), ("centre", .ref p), ("degree", vI f.de), ("swap", vS f.sw), ("text", .str (factText f))]
def UnsAt (C CR : Addr) (H : Hp) (a : Addr) (f : Fact) : Prop := ∃ dx p, H a = some (.ins C dx (unsF f p)) ∧ RatAt CR H p f.n f.d
theorem UnsAt.mono {C CR : Addr} {H H' : Hp} {a : Addr} {f : Fact} (h : UnsAt C CR H a f) (e : Same H H') : UnsAt C CR H' a f := let ⟨dx, p, h1, h2⟩ := h; ⟨dx, p, e _ _ h1, h2.mono e⟩
theorem Bt.d60 {n : Int} (h : Bt 30 n) : D60 n := Nat.lt_of_lt_of_le h (by decide)
section
variable (f : Fact) (p : Addr)
theorem unsF_arity : (unsF f p).lookup ("arity" : Str) = some (.int f.ar) := by unfold unsF; rw [lookup_put, if_pos rfl]
theorem unsF_mirror : (unsF f p).lookup ("mirror" : Str) = some (vS f.mi) := by unfold unsF; rw [lookup_put, if_neg (by decide +kernel), lookup_put, if_pos rfl]
theorem unsF_centre : (unsF f p).lookup ("centre" : Str) = some (.ref p) := by unfold unsF; rw [lookup_put, if_neg (by decide +kernel), lookup_put, if_neg (by decide +kernel), lookup_put, if_pos rfl]
theorem unsF_degree : (unsF f p).lookup ("degree" : Str) = some (vI f.de) := by unfold unsF; rw [lookup_put, if_neg (by decide +kernel), lookup_put, if_neg (by decide +kernel), lookup_put, if_neg (by decide +kernel), lookup_put, if_pos rfl]
theorem unsF_swap : (unsF f p).lookup ("swap" : Str) = some (vS f.sw) := by unfold unsF; rw [lookup_put, if_neg (by decide +kernel), lookup_put, if_neg (by decide +kernel), lookup_put, if_neg (by decide +kernel), lookup_put, if_neg (by decide +kernel), lookup_put, if_pos rfl]
theorem unsF_text : (unsF f p).lookup ("text" : Str) = some (.str (factText f)) := by unfold unsF; rw [lookup_put, if_neg (by decide +kernel), lookup_put, if_neg (by decide +kernel), lookup_put, if_neg (by decide +kernel), lookup_put, if_neg (by decide +kernel), lookup_put, if_neg (by decide +kernel), lookup_put, if_pos rfl]
end
theorem putF_new {k : Str} {v : V} : ∀ {fs : List (Str × V)}, (∀ q ∈ fs, ¬ q.1 = k) → putF k v fs = fs ++ [(k, v)]
  | [], _ => rfl
  | (g, x) :: r, h => by
    show (if g = k then _ else _) = _
    rw [if_neg (h (g, x) (List.mem_cons_self ..)), putF_new fun q hq => h q (List.mem_cons_of_mem _ hq)]
    rfl
def unsF3 (f : Fact) (p : Addr) : List (Str × V) := [("arity", .int f.ar), ("mirror", vS f.mi), ("centre", .ref p)]
def unsF5 (f : Fact) (p : Addr) : List (Str × V) := [("arity", .int f.ar), ("mirror", vS f.mi), ("centre", .ref p), ("degree", vI f.de), ("swap", vS f.sw)]
theorem putF_nm {k : Str} {v : V} {fs : List (Str × V)} {ns : List Str} (e : fs.map (·.1) = ns) (h : (ns.all fun g => !decide (g = k)) = true) : putF k v fs = fs ++ [(k, v)] := putF_new fun q hq z => by
  have hm : q.1 ∈ ns := by rw [← e]; exact List.mem_map.mpr ⟨q, hq, rfl⟩
  have := List.all_eq_true.mp h _ hm
  rw [z] at this
  simp at this
theorem put_3 (f : Fact) (p : Addr) : putF "centre" (.ref p) (putF "mirror" (vS f.mi) (putF "arity" (.int f.ar) [])) = unsF3 f p := by
  rw [putF_nm (fs := []) (ns := []) rfl rfl, putF_nm (k := "mirror") (ns := ["arity"]) rfl (by decide +kernel), putF_nm (k := "centre") (ns := ["arity", "mirror"]) rfl (by decide +kernel)]
  rfl
theorem put_5 (f : Fact) (p : Addr) : putF "swap" (vS f.sw) (putF "degree" (vI f.de) (unsF3 f p)) = unsF5 f p := by
  rw [putF_nm (k := "degree") (ns := ["arity", "mirror", "centre"]) rfl (by decide +kernel), putF_nm (k := "swap") (ns := ["arity", "mirror", "centre", "degree"]) rfl (by decide +kernel)]
  rfl
theorem put_6 (f : Fact) (p : Addr) : putF "text" (.str (factText f)) (unsF5 f p) = unsF f p := by
  rw [putF_nm (k := "text") (ns := ["arity", "mirror", "centre", "degree", "swap"]) rfl (by decide +kernel)]
  rfl
theorem unsF5_centre (f : Fact) (p : Addr) : (unsF5 f p).lookup ("centre" : Str) = some (.ref p) := by unfold unsF5; rw [lookup_put, if_neg (by decide +kernel), lookup_put, if_neg (by decide +kernel), lookup_put, if_pos rfl]
/-- all but the object at a stays -/
def ExA (a : Addr) (H H' : Hp) : Prop := ∀ b o, b ≠ a → H b = some o → H' b = some o
theorem ExA.upd {a : Addr} {H H' : Hp} {o : HO} (h : ExA a H H') : ExA a H (upd H' a o) := fun b u ne e => by rw [upd_ne ne]; exact h b u ne e
theorem ExA.same {a : Addr} {H H' H2 : Hp} (h : ExA a H H') (e : Same H' H2) : ExA a H H2 := fun b u ne z => e _ _ (h b u ne z)
theorem ExA.of {a : Addr} {H H' : Hp} (e : Same H H') : ExA a H H' := fun b u _ z => e _ _ z
theorem kindN_exA {K : PySem.W.Frag} {C CU a dx : Addr} {H H' : Hp} {y : V} {k : Kr} (ha : H a = some (.ins CU dx [])) (h : KindR K C H y k) (hN : k.isN = true) (e : ExA a H H') : KindR K C H' y k := by
  cases h with
  | int z => exact .int z
  | dat _ _ => cases hN
  | rat h =>
    obtain ⟨d, h⟩ := h
    refine .rat ⟨d, e _ _ (fun z => ?_) h⟩
    rw [z, ha] at h
    cases h
def spUns (K : PySem.W.Frag) (C CR : Addr) : Sp := fun vs H Q _ => ∃ (a dx : Addr) (y : V) (k : Kr) (f : Fact), vs = [.ref a, .int f.ar, vS f.mi, y, vI f.de, vS f.sw] ∧ H a = some (.ins C dx []) ∧ KindR K CR H y k ∧ k.isN = true ∧ k.top = f.n ∧ k.bot = f.d ∧ FactOk f ∧
  ∀ (p : Addr) (H' : Hp), (∀ b o, b ≠ a → H b = some o → H' b = some o) → H' a = some (.ins C dx (unsF f p)) → RatAt CR H' p f.n f.d → Q .non H'
end Mine
namespace Mine
open PySem PySem.Spec PyProof.Rows L2
def top (i : Nat) : Stmt := PySem.Challenge.pw_unseenslopes_k05_names_and_facts.main.body.getD i (.Pass ⟨0, 0, 0, 0⟩)
abbrev s__wall : Stmt := top 1
theorem sc__wall : FnScope ["k"] ["k"] (defScope s__wall) := ⟨rfl, rfl, rfl, by decide +kernel, rfl, by decide +kernel, by decide +kernel⟩
abbrev s_InvalidNumber_D_initD_ : Stmt := inClass (top 4) 0
theorem sc_InvalidNumber_D_initD_ : FnScope ["self", "given"] ["self", "given"] (defScope s_InvalidNumber_D_initD_) := ⟨rfl, rfl, rfl, by decide +kernel, rfl, by decide +kernel, by decide +kernel⟩
abbrev s_InvalidFact_D_initD_ : Stmt := inClass (top 5) 0
theorem sc_InvalidFact_D_initD_ : FnScope ["self", "what"] ["self", "what"] (defScope s_InvalidFact_D_initD_) := ⟨rfl, rfl, rfl, by decide +kernel, rfl, by decide +kernel, by decide +kernel⟩
abbrev s_InvalidText_D_initD_ : Stmt := inClass (top 6) 0
theorem sc_InvalidText_D_initD_ : FnScope ["self", "at"] ["self", "at"] (defScope s_InvalidText_D_initD_) := ⟨rfl, rfl, rfl, by decide +kernel, rfl, by decide +kernel, by decide +kernel⟩
abbrev s_is_whole : Stmt := top 9
theorem sc_is_whole : FnScope ["value"] ["value"] (defScope s_is_whole) := ⟨rfl, rfl, rfl, by decide +kernel, rfl, by decide +kernel, by decide +kernel⟩
abbrev s_is_number : Stmt := top 10
theorem sc_is_number : FnScope ["value"] ["value"] (defScope s_is_number) := ⟨rfl, rfl, rfl, by decide +kernel, rfl, by decide +kernel, by decide +kernel⟩
abbrev s_ratio_of : Stmt := top 11
theorem sc_ratio_of : FnScope ["value"] ["value"] (defScope s_ratio_of) := ⟨rfl, rfl, rfl, by decide +kernel, rfl, by decide +kernel, by decide +kernel⟩
abbrev s_Ratio_D_initD_ : Stmt := inClass (top 12) 0
theorem sc_Ratio_D_initD_ : FnScope ["self", "top", "bottom", "shared"] ["self", "top", "bottom"] (defScope s_Ratio_D_initD_) := ⟨rfl, rfl, rfl, by decide +kernel, rfl, by decide +kernel, by decide +kernel⟩
abbrev s_Ratio_whole : Stmt := inClass (top 12) 1
theorem sc_Ratio_whole : FnScope ["self"] ["self"] (defScope s_Ratio_whole) := ⟨rfl, rfl, rfl, by decide +kernel, rfl, by decide +kernel, by decide +kernel⟩
abbrev s_Ratio_read : Stmt := inClass (top 12) 2
theorem sc_Ratio_read : FnScope ["text", "begin", "words", "bottom", "top", "word"] ["text"] (defScope s_Ratio_read) := ⟨rfl, rfl, rfl, by decide +kernel, rfl, by decide +kernel, by decide +kernel⟩
abbrev s_Ratio_over : Stmt := inClass (top 12) 3
theorem sc_Ratio_over : FnScope ["self", "other"] ["self", "other"] (defScope s_Ratio_over) := ⟨rfl, rfl, rfl, by decide +kernel, rfl, by decide +kernel, by decide +kernel⟩
abbrev s_Ratio_D_addD_ : Stmt := inClass (top 12) 4
theorem sc_Ratio_D_addD_ : FnScope ["self", "other", "more"] ["self", "other"] (defScope s_Ratio_D_addD_) := ⟨rfl, rfl, rfl, by decide +kernel, rfl, by decide +kernel, by decide +kernel⟩
abbrev s_Ratio_D_raddD_ : Stmt := inClass (top 12) 5
theorem sc_Ratio_D_raddD_ : FnScope ["self", "other"] ["self", "other"] (defScope s_Ratio_D_raddD_) := ⟨rfl, rfl, rfl, by decide +kernel, rfl, by decide +kernel, by decide +kernel⟩
abbrev s_Ratio_D_subD_ : Stmt := inClass (top 12) 6
theorem sc_Ratio_D_subD_ : FnScope ["self", "other"] ["self", "other"] (defScope s_Ratio_D_subD_) := ⟨rfl, rfl, rfl, by decide +kernel, rfl, by decide +kernel, by decide +kernel⟩
abbrev s_Ratio_D_rsubD_ : Stmt := inClass (top 12) 7
theorem sc_Ratio_D_rsubD_ : FnScope ["self", "other"] ["self", "other"] (defScope s_Ratio_D_rsubD_) := ⟨rfl, rfl, rfl, by decide +kernel, rfl, by decide +kernel, by decide +kernel⟩
abbrev s_Ratio_D_mulD_ : Stmt := inClass (top 12) 8
theorem sc_Ratio_D_mulD_ : FnScope ["self", "other", "more"] ["self", "other"] (defScope s_Ratio_D_mulD_) := ⟨rfl, rfl, rfl, by decide +kernel, rfl, by decide +kernel, by decide +kernel⟩
abbrev s_Ratio_D_rmulD_ : Stmt := inClass (top 12) 9
theorem sc_Ratio_D_rmulD_ : FnScope ["self", "other"] ["self", "other"] (defScope s_Ratio_D_rmulD_) := ⟨rfl, rfl, rfl, by decide +kernel, rfl, by decide +kernel, by decide +kernel⟩
abbrev s_Ratio_D_negD_ : Stmt := inClass (top 12) 10
theorem sc_Ratio_D_negD_ : FnScope ["self"] ["self"] (defScope s_Ratio_D_negD_) := ⟨rfl, rfl, rfl, by decide +kernel, rfl, by decide +kernel, by decide +kernel⟩
abbrev s_Ratio_D_absD_ : Stmt := inClass (top 12) 11
theorem sc_Ratio_D_absD_ : FnScope ["self"] ["self"] (defScope s_Ratio_D_absD_) := ⟨rfl, rfl, rfl, by decide +kernel, rfl, by decide +kernel, by decide +kernel⟩
abbrev s_Ratio_D_eqD_ : Stmt := inClass (top 12) 12
theorem sc_Ratio_D_eqD_ : FnScope ["self", "other", "more"] ["self", "other"] (defScope s_Ratio_D_eqD_) := ⟨rfl, rfl, rfl, by decide +kernel, rfl, by decide +kernel, by decide +kernel⟩
abbrev s_Ratio_D_strD_ : Stmt := inClass (top 12) 13
theorem sc_Ratio_D_strD_ : FnScope ["self"] ["self"] (defScope s_Ratio_D_strD_) := ⟨rfl, rfl, rfl, by decide +kernel, rfl, by decide +kernel, by decide +kernel⟩
abbrev s_Ratio_D_reprD_ : Stmt := inClass (top 12) 14
theorem sc_Ratio_D_reprD_ : FnScope ["self"] ["self"] (defScope s_Ratio_D_reprD_) := ⟨rfl, rfl, rfl, by decide +kernel, rfl, by decide +kernel, by decide +kernel⟩
abbrev s_is_digits : Stmt := top 13
theorem sc_is_digits : FnScope ["word", "sign"] ["word"] (defScope s_is_digits) := ⟨rfl, rfl, rfl, by decide +kernel, rfl, by decide +kernel, by decide +kernel⟩
abbrev s_digits_of : Stmt := top 14
theorem sc_digits_of : FnScope ["number", "step", "rest", "text"] ["number"] (defScope s_digits_of) := ⟨rfl, rfl, rfl, by decide +kernel, rfl, by decide +kernel, by decide +kernel⟩
abbrev s_is_name : Stmt := top 18
theorem sc_is_name : FnScope ["value", "sign"] ["value"] (defScope s_is_name) := ⟨rfl, rfl, rfl, by decide +kernel, rfl, by decide +kernel, by decide +kernel⟩
abbrev s_Unseen_D_initD_ : Stmt := inClass (top 19) 0
theorem sc_Unseen_D_initD_ : FnScope ["self", "arity", "mirror", "centre", "degree", "swap", "words"] ["self", "arity", "mirror", "centre", "degree", "swap"] (defScope s_Unseen_D_initD_) := ⟨rfl, rfl, rfl, by decide +kernel, rfl, by decide +kernel, by decide +kernel⟩
abbrev s_Unseen_is_free : Stmt := inClass (top 19) 1
theorem sc_Unseen_is_free : FnScope ["self"] ["self"] (defScope s_Unseen_is_free) := ⟨rfl, rfl, rfl, by decide +kernel, rfl, by decide +kernel, by decide +kernel⟩
abbrev s_Unseen_read : Stmt := inClass (top 19) 2
theorem sc_Unseen_read : FnScope ["text", "words", "rest", "mirror", "centre", "degree"] ["text"] (defScope s_Unseen_read) := ⟨rfl, rfl, rfl, by decide +kernel, rfl, by decide +kernel, by decide +kernel⟩
abbrev s_Unseen_D_eqD_ : Stmt := inClass (top 19) 3
theorem sc_Unseen_D_eqD_ : FnScope ["self", "other"] ["self", "other"] (defScope s_Unseen_D_eqD_) := ⟨rfl, rfl, rfl, by decide +kernel, rfl, by decide +kernel, by decide +kernel⟩
abbrev s_Unseen_D_strD_ : Stmt := inClass (top 19) 4
theorem sc_Unseen_D_strD_ : FnScope ["self"] ["self"] (defScope s_Unseen_D_strD_) := ⟨rfl, rfl, rfl, by decide +kernel, rfl, by decide +kernel, by decide +kernel⟩
abbrev s_Unseen_D_reprD_ : Stmt := inClass (top 19) 5
theorem sc_Unseen_D_reprD_ : FnScope ["self"] ["self"] (defScope s_Unseen_D_reprD_) := ⟨rfl, rfl, rfl, by decide +kernel, rfl, by decide +kernel, by decide +kernel⟩
abbrev s_L_bag : Stmt := top 21
theorem sc_L_bag : FnScope ["_law_script"] ["_law_script"] (defScope s_L_bag) := ⟨rfl, rfl, rfl, by decide +kernel, rfl, by decide +kernel, by decide +kernel⟩
abbrev s_L_pull : Stmt := top 22
theorem sc_L_pull : FnScope ["_law_bag_here", "_law_many", "_law_cell", "_law_small", "_law_digit", "_law_seed", "_law_step"] ["_law_bag_here", "_law_many"] (defScope s_L_pull) := ⟨rfl, rfl, rfl, by decide +kernel, rfl, by decide +kernel, by decide +kernel⟩
abbrev s_L_of : Stmt := top 23
theorem sc_L_of : FnScope ["_law_bag_here", "_law_things"] ["_law_bag_here", "_law_things"] (defScope s_L_of) := ⟨rfl, rfl, rfl, by decide +kernel, rfl, by decide +kernel, by decide +kernel⟩
abbrev s_L_same : Stmt := top 24
theorem sc_L_same : FnScope ["_law_found", "_law_due", "_law_a", "_law_b"] ["_law_found", "_law_due"] (defScope s_L_same) := ⟨rfl, rfl, rfl, by decide +kernel, rfl, by decide +kernel, by decide +kernel⟩
abbrev s_L_name : Stmt := top 25
theorem sc_L_name : FnScope ["_law_bag_here", "_law_letters", "_law_text", "_law_k"] ["_law_bag_here"] (defScope s_L_name) := ⟨rfl, rfl, rfl, by decide +kernel, rfl, by decide +kernel, by decide +kernel⟩
abbrev s_L_low : Stmt := top 26
theorem sc_L_low : FnScope ["_law_top", "_law_bottom", "_law_one", "_law_other", "_law_sign"] ["_law_top", "_law_bottom"] (defScope s_L_low) := ⟨rfl, rfl, rfl, by decide +kernel, rfl, by decide +kernel, by decide +kernel⟩
abbrev s_L_pair : Stmt := top 27
theorem sc_L_pair : FnScope ["_law_found", "_law_whole", "_law_part"] ["_law_found"] (defScope s_L_pair) := ⟨rfl, rfl, rfl, by decide +kernel, rfl, by decide +kernel, by decide +kernel⟩
abbrev s_L_ratio : Stmt := top 28
theorem sc_L_ratio : FnScope ["_law_pair_here"] ["_law_pair_here"] (defScope s_L_ratio) := ⟨rfl, rfl, rfl, by decide +kernel, rfl, by decide +kernel, by decide +kernel⟩
abbrev s_L_pair_text : Stmt := top 29
theorem sc_L_pair_text : FnScope ["_law_pair_here"] ["_law_pair_here"] (defScope s_L_pair_text) := ⟨rfl, rfl, rfl, by decide +kernel, rfl, by decide +kernel, by decide +kernel⟩
abbrev s_L_facts : Stmt := top 30
theorem sc_L_facts : FnScope ["_law_bag_here", "_law_degrees", "_law_mirror", "_law_centre"] ["_law_bag_here", "_law_degrees"] (defScope s_L_facts) := ⟨rfl, rfl, rfl, by decide +kernel, rfl, by decide +kernel, by decide +kernel⟩
abbrev s_L_unseen : Stmt := top 31
theorem sc_L_unseen : FnScope ["_law_fact"] ["_law_fact"] (defScope s_L_unseen) := ⟨rfl, rfl, rfl, by decide +kernel, rfl, by decide +kernel, by decide +kernel⟩
abbrev s_L_fact_text : Stmt := top 32
theorem sc_L_fact_text : FnScope ["_law_fact", "_law_words"] ["_law_fact"] (defScope s_L_fact_text) := ⟨rfl, rfl, rfl, by decide +kernel, rfl, by decide +kernel, by decide +kernel⟩
abbrev s_law : Stmt := top 33
theorem sc_law : FnScope ["_law_script", "_law_bag_here", "_law_turn", "_law_name_here", "_law_odd", "_law_fact", "_law_one", "_law_found", "_law_text", "_law_free", "_law_other", "_law_whole"] ["_law_script"] (defScope s_law) := ⟨rfl, rfl, rfl, by decide +kernel, rfl, by decide +kernel, by decide +kernel⟩

end Mine
namespace Mine
open PySem PySem.Spec PyProof.Rows L2
section
variable {P : Program} {w : World} {K : PySem.W.Frag} {mg : Str → Option Value} {base : Heap}
theorem ok_pull {f : Addr} {fd : FuncData} (F : Fun K "_law_pull" "_law_pull" s_L_pull f fd) (T : TxtL mg) : FnOk P w K mg base CX0 1 f fd ["_law_bag_here", "_law_many"] spPull := by
  refine F.ok sc_L_pull (fun vs H Q E h => ?_) (fun cdv A outer s H vs Q E hr h => ?_)
  · obtain ⟨b, many, rfl, _⟩ := h
    rfl
  · obtain ⟨b, many, rfl, ⟨l, i, r, m, n, hb, hV, ne⟩, hm0, hm1, k⟩ := h
    refine ⟨_, (pss_cons (ps_asg (pe_op op_add (pe_ix ix_list (pv 0) pe_int (fun _ _ => rfl)) pe_int) (pg_sub (pv 0) pe_int set_list))
 (Evl.pss_cut (ps_if (PW.pt (pw_and (pt_cmpR op_eq (pe_ix ix_list (pv 0) pe_int (fun _ _ => rfl)) pe_int (nomark _)) (pw_and1 (pt_cmpR op_lt (pe_ix ix_list (pv 0) pe_int (fun _ _ => rfl)) (pe_callB call_len_seq (by rfl) T.len PySem.boot_len (pa_cons (pe_ix ix_list (pv 0) pe_int (fun _ _ => rfl)) pa_nil)) (nomark _)))))
 (pss_cons (ps_set (i := 2) sc_L_pull.nd rfl (Or.inl rfl) (pe_ix ix_list (pe_ix ix_list (pv 0) pe_int (fun _ _ => rfl)) (pe_ix ix_list (pv 0) pe_int (fun _ _ => rfl)) (fun _ _ => rfl)))
 (pss_cons (ps_asg (pe_op op_add (pe_ix ix_list (pv 0) pe_int (fun _ _ => rfl)) pe_int) (pg_sub (pv 0) pe_int set_list))
 (pss_one (ps_if (pt_cmpR op_ge (pe_callB call_abs (by rfl) T.abs (by decide +kernel) (pa_cons (pv 2) pa_nil)) (pe_op op_pow pe_int pe_int) (nomark _))
 (pss_one (ps_asg (pe_callB call_abs (by rfl) T.abs (by decide +kernel) (pa_cons (pv 2) pa_nil)) (pg_sub (pv 0) pe_int set_list)))
 (pss_cons (ps_set (i := 3) sc_L_pull.nd rfl (Or.inl rfl) (pe_op op_add (pe_op op_mul (pe_op op_mod (pe_callTy call_int1 (by rfl) T.int (by decide +kernel) (pa_cons (pv 2) pa_nil)) pe_int) pe_int) pe_int))
 (pss_one (ps_asg (pe_op op_mod (pe_callTy call_int1 (by rfl) T.int (by decide +kernel) (pa_cons (pe_op op_add (pe_op op_mul (pe_ix ix_list (pv 0) pe_int (fun _ _ => rfl)) pe_int) (pv 3)) pa_nil)) pe_int) (pg_sub (pv 0) pe_int set_list))))))))
 pss_nil)
 (pss_cons (ps_if (pt_cmpR op_gt (pe_ix ix_list (pv 0) pe_int (fun _ _ => rfl)) pe_int (nomark _))
 (pss_cons (ps_set (i := 4) sc_L_pull.nd rfl (Or.inl rfl) (pe_op op_mod (pe_callTy call_int1 (by rfl) T.int (by decide +kernel) (pa_cons (pe_ix ix_list (pv 0) pe_int (fun _ _ => rfl)) pa_nil)) (pv 1)))
 (pss_cons (ps_asg (pe_op op_fdiv (pe_ix ix_list (pv 0) pe_int (fun _ _ => rfl)) (pv 1)) (pg_sub (pv 0) pe_int set_list))
 (pss_one (ps_ret (pv 4)))))
 pss_nil)
 (pss_cons (ps_set (i := 5) sc_L_pull.nd rfl (Or.inl rfl) (pe_ix ix_list (pv 0) pe_int (fun _ _ => rfl)))
 (pss_cons (ps_set (i := 6) sc_L_pull.nd rfl (Or.inl rfl) (pe_op op_add (pe_op op_add (pe_op op_mul (pv 5) pe_int) (pe_op op_mul (pe_ix ix_list (pv 0) pe_int (fun _ _ => rfl)) pe_int)) pe_int))
 (pss_cons (ps_asg (pe_op op_mod (pe_callTy call_int1 (by rfl) T.int (by decide +kernel) (pa_cons (pe_op op_add (pe_op op_mul (pe_op op_mul (pv 5) (pv 5)) pe_int) (pv 6)) pa_nil)) pe_int) (pg_sub (pv 0) pe_int set_list))
 (pss_one (ps_ret (pe_op op_mod (pe_callTy call_int1 (by rfl) T.int (by decide +kernel) (pa_cons (pe_op op_add (pe_op op_fdiv (pe_ix ix_list (pv 0) pe_int (fun _ _ => rfl)) pe_int) (pe_op op_mul (pe_op op_mod (pe_callTy call_int1 (by rfl) T.int (by decide +kernel) (pa_cons (pe_ix ix_list (pv 0) pe_int (fun _ _ => rfl)) pa_nil)) pe_int) pe_int)) pa_nil)) (pv 1)))))))))), ?_⟩
    obtain ⟨ns, hl⟩ := hV.ls
    refine ⟨_, rfl, b, _, _, _, rfl, rfl, SqL.of hb, rfl, _, _, rfl, rfl, _, rfl, b, _, _, _, rfl, rfl, hb, rfl, ?_⟩
    refine ⟨fun σ' H' => ∃ (c z : Option V) (i r m n : Int), σ' = [some (.ref b), some (.int many), c, z, none, none, none] ∧ BagV H l i r m ∧ H' = upd H b (bagO l i r m n), ?_, ?_⟩
    · -- if bag[2] == 0 and bag[1] < len(bag[0])
      have hl' : ∀ o, (upd H b o) l = some (.lst (ns.map V.int)) := fun o => by rw [upd_ne ne]; exact hl
      refine ⟨_, rfl, b, _, _, _, rfl, rfl, SqL.of upd_same, rfl, rfl, _, rfl, ?_⟩
      by_cases c0 : r = 0
      · subst c0
        refine itT rfl ?_
        refine ⟨_, rfl, b, _, _, _, rfl, rfl, SqL.of upd_same, rfl, ?_⟩
        refine ⟨_, rfl, b, _, _, _, rfl, rfl, SqL.of upd_same, rfl, l, _, rfl, .inl (SqL.of (hl' _)), _, _, rfl, rfl, _, rfl, ?_⟩
        by_cases c1 : i < ((ns.map V.int).length : Int)
        · refine itT (decide_eq_true c1) ?_
          obtain ⟨z, hz⟩ := at_range hV.i0 c1
          refine ⟨_, rfl, b, _, _, _, rfl, rfl, SqL.of upd_same, rfl, _, rfl, b, _, _, _, rfl, rfl, SqL.of upd_same, rfl, l, _, i, _, rfl, rfl, SqL.of (hl' _), hz, ?_⟩
          refine ⟨_, rfl, b, _, _, _, rfl, rfl, SqL.of upd_same, rfl, _, _, rfl, rfl, _, rfl, b, _, _, _, rfl, rfl, upd_same, rfl, ?_⟩
          refine ⟨_, rfl, z, rfl, _, _, rfl, rfl, ⟨by decide, by decide, by decide⟩, _, _, rfl, rfl, _, rfl, ?_⟩
          by_cases c2 : (10 : Int) ^ (18 : Int).toNat ≤ (if z < 0 then -z else z)
          · refine itT (decide_eq_true c2) ?_
            refine ⟨_, rfl, z, rfl, _, rfl, b, _, _, _, rfl, rfl, upd_same, rfl, ?_⟩
            refine ⟨_, _, i + 1, (if z < 0 then -z else z), m, n + 1, rfl, ⟨⟨ns, hl⟩, by have := hV.i0; omega, by split <;> omega, hV.m0, hV.m1⟩, ?_⟩
            rw [upd_upd, upd_upd]
            rfl
          · refine itF (decide_eq_false c2) ?_
            refine ⟨_, rfl, .inl ⟨z, rfl, _, _, rfl, rfl, (by show (0 : Int) < 1000000007; decide), _, _, rfl, rfl, .inr ⟨by decide, by decide⟩, _, _, rfl, rfl, ?_⟩⟩
            refine ⟨_, rfl, b, _, _, _, rfl, rfl, SqL.of upd_same, rfl, _, _, rfl, rfl, .inr ⟨by decide, by decide⟩, _, rfl, _, _, rfl, rfl, .inl ⟨_, rfl, _, _, rfl, rfl, (by show (0 : Int) < 2147483549; decide), _, rfl, b, _, _, _, rfl, rfl, upd_same, rfl, ?_⟩⟩
            refine ⟨_, _, i + 1, 0, (m * 41759 + (z % 1000000007 * 30119 + 61)) % 2147483549, n + 1, rfl, ⟨⟨ns, hl⟩, by have := hV.i0; omega, Int.le_refl 0, Int.emod_nonneg _ (by decide), Int.emod_lt_of_pos _ (by decide)⟩, ?_⟩
            rw [upd_upd, upd_upd]
            rfl
        · refine itF (decide_eq_false c1) ?_
          exact ⟨none, none, i, 0, m, n + 1, rfl, hV, rfl⟩
      · have e2 : decide (V.int r = V.int 0) = false := decide_eq_false (fun z => c0 (V.int.inj z))
        refine itF e2 ?_
        refine itF rfl ?_
        exact ⟨none, none, i, r, m, n + 1, rfl, hV, rfl⟩
    · rintro σ' H' ⟨c, z, i, r, m, n, rfl, hV, rfl⟩
      refine ⟨_, rfl, b, _, _, _, rfl, rfl, SqL.of upd_same, rfl, _, _, rfl, rfl, _, rfl, ?_⟩
      by_cases c0 : (0 : Int) < r
      · refine itT (decide_eq_true c0) ?_
        refine ⟨_, rfl, b, _, _, _, rfl, rfl, SqL.of upd_same, rfl, .inl ⟨_, rfl, _, rfl, _, _, rfl, rfl, hm0, ?_⟩⟩
        refine ⟨_, rfl, b, _, _, _, rfl, rfl, SqL.of upd_same, rfl, _, rfl, _, _, rfl, rfl, ⟨hm0, hm1⟩, _, rfl, b, _, _, _, rfl, rfl, upd_same, rfl, ?_⟩
        refine ⟨_, rfl, ?_⟩
        have q := k (r % many) (bagO l i (r / many) m n) (Int.emod_nonneg _ (by omega)) (Int.emod_lt_of_pos _ hm0) (Bag.put (n := n) ne ⟨⟨ns, hl⟩, hV.i0, Int.ediv_nonneg hV.r0 (by omega), hV.m0, hV.m1⟩)
        rw [← upd_upd (H := H) (a := b) (o := bagO l i r m n)] at q
        exact q
      · refine itF (decide_eq_false c0) ?_
        refine ⟨_, rfl, b, _, _, _, rfl, rfl, SqL.of upd_same, rfl, ?_⟩
        have b1 : -(2 ^ 64) < m ∧ m < 2 ^ 64 := ⟨by have := hV.m0; omega, by have := hV.m1; omega⟩
        refine ⟨_, rfl, _, _, rfl, rfl, .inl b1, ?_⟩
        refine ⟨_, rfl, b, _, _, _, rfl, rfl, SqL.of upd_same, rfl, _, _, rfl, rfl, .inr ⟨by decide, by decide⟩, _, _, rfl, rfl, _, _, rfl, rfl, ?_⟩
        refine ⟨_, rfl, _, rfl, _, _, rfl, rfl, .inl b1, _, _, rfl, rfl, .inr ⟨by decide, by decide⟩, _, rfl, _, _, rfl, rfl, .inl ⟨_, rfl, _, _, rfl, rfl, (by show (0 : Int) < 2147483549; decide), _, rfl, b, _, _, _, rfl, rfl, upd_same, rfl, ?_⟩⟩
        have x0 : 0 ≤ (m * m * 19 + (m * 57191 + n * 104789 + 90031)) % 2147483549 := Int.emod_nonneg _ (by decide)
        have x1 : (m * m * 19 + (m * 57191 + n * 104789 + 90031)) % 2147483549 < 2147483549 := Int.emod_lt_of_pos _ (by decide)
        refine ⟨_, rfl, b, _, _, _, rfl, rfl, SqL.of upd_same, rfl, _, _, rfl, rfl, ⟨by decide, by decide⟩, ?_⟩
        refine ⟨_, rfl, b, _, _, _, rfl, rfl, SqL.of upd_same, rfl, .inl ⟨_, rfl, _, _, rfl, rfl, (by show (0 : Int) < 7901; decide), _, _, rfl, rfl, .inr ⟨by decide, by decide⟩, _, _, rfl, rfl, .inl ⟨_, rfl, _, rfl, _, _, rfl, rfl, hm0, ?_⟩⟩⟩
        have q := k (((m * m * 19 + (m * 57191 + n * 104789 + 90031)) % 2147483549 / 101 + (m * m * 19 + (m * 57191 + n * 104789 + 90031)) % 2147483549 % 7901 * 71) % many) (bagO l i r ((m * m * 19 + (m * 57191 + n * 104789 + 90031)) % 2147483549) n) (Int.emod_nonneg _ (by omega)) (Int.emod_lt_of_pos _ hm0) (Bag.put (n := n) ne ⟨⟨ns, hl⟩, hV.i0, hV.r0, x0, x1⟩)
        rw [← upd_upd (H := H) (a := b) (o := bagO l i r m n)] at q
        exact q
theorem ok_bag {f : Addr} {fd : FuncData} (F : Fun K "_law_bag" "_law_bag" s_L_bag f fd) (T : TxtL mg) : FnOk P w K mg base CX0 1 f fd ["_law_script"] (spBag K) := by
  refine F.ok sc_L_bag (fun vs H Q E h => ?_) (fun cdv A outer s H vs Q E hr h => ?_)
  · obtain ⟨b, many, rfl, _⟩ := h
    rfl
  · obtain ⟨a, ns, rfl, ha, k⟩ := h
    refine ⟨_, (pss_one (ps_ret (pe_lst (pa_cons (pe_callTy call_list_of (by rfl) T.list (by decide +kernel) (pa_cons (pe_slice sl_list (pv 0) po_none (po_some pe_int)) pa_nil)) (pa_cons pe_int (pa_cons pe_int (pa_cons pe_int (pa_cons pe_int pa_nil)))))))), ?_⟩
    obtain ⟨ms, hms⟩ := cut_ints (ns := ns) (lo := none) (hi := some 63)
    refine ⟨_, rfl, _, rfl, a, _, rfl, ha, fun p np => ?_⟩
    refine ⟨p, _, rfl, .inl (SqL.of upd_same), fun l nl => ?_⟩
    refine ⟨(by show 5 ≤ sizeLine; decide), fun b nb => ?_⟩
    have np' : H p = none := np
    have s1 : Same H (upd H p (.lst (cutV (ns.map V.int) none (some 63)))) := Same.new np
    have s2 := Same.new (o := .lst (cutV (ns.map V.int) none (some 63))) nl
    refine k b _ (s1.free (s2.free nb)) ((s1.trans s2).trans (Same.new nb)) ⟨l, 0, 0, 12004, 0, upd_same, ⟨⟨ms, ?_⟩, Int.le_refl 0, Int.le_refl 0, by decide, by decide⟩, fun z => ?_⟩
    · rw [upd_ne (fun z => by rw [← z, upd_same] at nb; cases nb), upd_same, hms]
    · rw [← z, upd_same] at nb
      cases nb
theorem ok_of {f fP : Addr} {fd fdP : FuncData} (F : Fun K "_law_of" "_law_of" s_L_of f fd) (T : TxtP K mg fP) (G_pull : FnOk P w K mg base CX0 1 fP fdP ["_law_bag_here", "_law_many"] spPull) (b_pull : Binds K fdP ["_law_bag_here", "_law_many"] []) :
    FnOk P w K mg base CX0 2 f fd ["_law_bag_here", "_law_things"] (spOf K) := by
  refine F.ok sc_L_of (fun vs H Q E h => ?_) (fun cdv A outer s H vs Q E r_pull h => ?_)
  · obtain ⟨b, many, _, rfl, _⟩ := h
    rfl
  · obtain ⟨b, t, xs, rfl, hb, ht, ne, l0, l1, k⟩ := h
    refine ⟨_, (pss_one (ps_ret (pe_ix ix_list (pv 1) (pe_call G_pull r_pull rfl T.g_pull T.k_pull b_pull .nil pass0 (pa_cons (pv 0) (pa_cons (pe_callB call_len_seq (by rfl) T.len PySem.boot_len (pa_cons (pv 1) pa_nil)) pa_nil))) (fun _ _ => rfl)))), ?_⟩
    refine ⟨_, rfl, _, rfl, _, rfl, t, xs, rfl, .inl ht, b, _, rfl, hb, by omega, by omega, fun d o d0 d1 hb' => ?_⟩
    have hlt : d.toNat < xs.length := by omega
    refine ⟨t, xs, d, xs[d.toNat], rfl, rfl, sqL_upd ne ht, ?_, k d.toNat _ o (by simp [hlt]) hb'⟩
    unfold atI ixN
    rw [if_pos d0, if_pos d1]
    simp [hlt]
end
end Mine
namespace Mine
open PySem PySem.Spec PyProof.Rows L2
section
variable {P : Program} {w : World} {K : PySem.W.Frag} {mg : Str → Option Value} {base : Heap}
theorem ok_same {f : Addr} {fd : FuncData} (F : Fun K "_law_same" "_law_same" s_L_same f fd) (T : TxtS K mg f) (b_same : Binds K fd ["_law_found", "_law_due"] []) : ∀ n : Nat, FnOk P w K mg base CX0 n f fd ["_law_found", "_law_due"] (spSame K n) := by
  intro n
  induction n with
  | zero => exact ⟨fun _ _ _ _ h => h.elim, fun _ _ _ _ _ _ _ _ _ _ _ _ _ h => h.elim⟩
  | succ n G_same =>
  refine F.ok sc_L_same (fun vs H Q E h => ?_) (fun cdv A outer s H vs Q E r_same h => ?_)
  · obtain ⟨b, many, _, rfl, _⟩ := h
    rfl
  · obtain ⟨x, y, d, rfl, hx, hy, hd, k⟩ := h
    refine ⟨_, (pss_cons (ps_if (PW.pt (pw_or (pt_cmpR op_isN (pv 1) pe_non (nomark _)) (pw_or1 (pt_cmpR op_isN (pv 0) pe_non (nomark _)))))
 (pss_one (ps_ret (pe_and (pe_cmpR op_isN (pv 1) pe_non (nomark _)) (pe_one (pe_cmpR op_isN (pv 0) pe_non (nomark _))))))
 pss_nil)
 (pss_cons (ps_if (PW.pt (pw_or (pt_val (pe_callB (id := "isinstance") call_isi (by rfl) T.isinstance (by decide +kernel) (pa_cons (pv 1) (pa_cons (pe_bltn (v := .ty "bool") (by rfl) T.bool (by decide +kernel) rfl) pa_nil)))) (pw_or1 (pt_val (pe_callB (id := "isinstance") call_isi (by rfl) T.isinstance (by decide +kernel) (pa_cons (pv 0) (pa_cons (pe_bltn (v := .ty "bool") (by rfl) T.bool (by decide +kernel) rfl) pa_nil)))))))
 (pss_one (ps_ret (pe_and (pe_callB (id := "isinstance") call_isi (by rfl) T.isinstance (by decide +kernel) (pa_cons (pv 1) (pa_cons (pe_bltn (v := .ty "bool") (by rfl) T.bool (by decide +kernel) rfl) pa_nil))) (pe_and (pe_callB (id := "isinstance") call_isi (by rfl) T.isinstance (by decide +kernel) (pa_cons (pv 0) (pa_cons (pe_bltn (v := .ty "bool") (by rfl) T.bool (by decide +kernel) rfl) pa_nil))) (pe_one (pe_cmpR op_eq (pv 0) (pv 1) (nomark _)))))))
 pss_nil)
 (pss_cons (ps_if (PW.pt (pw_or (pt_val (pe_callB (id := "isinstance") call_isiT (by rfl) T.isinstance (by decide +kernel) (pa_cons (pv 1) (pa_cons (pe_tup (pa_cons (pe_bltn (v := .ty "list") (by rfl) T.list (by decide +kernel) rfl) (pa_cons (pe_bltn (v := .ty "tuple") (by rfl) T.tuple (by decide +kernel) rfl) pa_nil))) pa_nil)))) (pw_or1 (pt_val (pe_callB (id := "isinstance") call_isiT (by rfl) T.isinstance (by decide +kernel) (pa_cons (pv 0) (pa_cons (pe_tup (pa_cons (pe_bltn (v := .ty "list") (by rfl) T.list (by decide +kernel) rfl) (pa_cons (pe_bltn (v := .ty "tuple") (by rfl) T.tuple (by decide +kernel) rfl) pa_nil))) pa_nil)))))))
 (pss_cons (ps_if (pt_cmpR op_ne (pe_callB (id := "isinstance") call_isi (by rfl) T.isinstance (by decide +kernel) (pa_cons (pv 1) (pa_cons (pe_bltn (v := .ty "list") (by rfl) T.list (by decide +kernel) rfl) pa_nil))) (pe_callB (id := "isinstance") call_isi (by rfl) T.isinstance (by decide +kernel) (pa_cons (pv 0) (pa_cons (pe_bltn (v := .ty "list") (by rfl) T.list (by decide +kernel) rfl) pa_nil))) (nomark _))
 (pss_one (ps_ret pe_bl))
 pss_nil)
 (pss_cons (ps_if (PW.pt (pw_or (pt_cmpR op_ne (pe_callB (id := "isinstance") call_isi (by rfl) T.isinstance (by decide +kernel) (pa_cons (pv 1) (pa_cons (pe_bltn (v := .ty "tuple") (by rfl) T.tuple (by decide +kernel) rfl) pa_nil))) (pe_callB (id := "isinstance") call_isi (by rfl) T.isinstance (by decide +kernel) (pa_cons (pv 0) (pa_cons (pe_bltn (v := .ty "tuple") (by rfl) T.tuple (by decide +kernel) rfl) pa_nil))) (nomark _)) (pw_or1 (pt_cmpR op_ne (pe_callB call_len_seq (by rfl) T.len PySem.boot_len (pa_cons (pv 0) pa_nil)) (pe_callB call_len_seq (by rfl) T.len PySem.boot_len (pa_cons (pv 1) pa_nil)) (nomark _)))))
 (pss_one (ps_ret pe_bl))
 pss_nil)
 (pss_one (ps_ret (pe_callB (cr_all rfl) (by rfl) T.all (by decide +kernel) (pa_cons (pe_lc (own := [("_law_a", 2), ("_law_b", 3)]) (g := (gTup K 2 (gCons (gName 2) (gCons (gName 3) gNil)))) (tt := tYes) (te := tCall (spSame K n) [] E0 (tCons (tVar 2) (tCons (tVar 3) tNil))) rfl sc_L_same.nd (RZ.pi_zipA (by rfl) T.zip (pa_cons (pv 0) (pa_cons (pv 1) pa_nil))) (blkOk_by (own := [("_law_a", 2), ("_law_b", 3)]) (N := ["_law_found", "_law_due", "_law_a", "_law_b"]) (sc := defScope s_L_same) (by decide +kernel)) (fun _ _ _ _ _ => (pg_tup (by rfl) (pgs_cons (pg_name (i := 2) sc_L_same.nd rfl (Or.inl rfl)) (pgs_cons (pg_name (i := 3) sc_L_same.nd rfl (Or.inl rfl)) pgs_nil)))) (fun _ _ _ _ _ => pts_nil) (fun _ _ _ _ _ => (pe_call G_same r_same rfl T.g_same T.k_same b_same .nil pass0 (pa_cons (pv 2) (pa_cons (pv 3) pa_nil))))) pa_nil))))))
 pss_nil)
 (pss_cons (ps_if (pt_cmpR op_ne (pe_callB (id := "isinstance") call_isi (by rfl) T.isinstance (by decide +kernel) (pa_cons (pv 1) (pa_cons (pe_bltn (v := .ty "int") (by rfl) T.int (by decide +kernel) rfl) pa_nil))) (pe_callB (id := "isinstance") call_isi (by rfl) T.isinstance (by decide +kernel) (pa_cons (pv 0) (pa_cons (pe_bltn (v := .ty "int") (by rfl) T.int (by decide +kernel) rfl) pa_nil))) (nomark _))
 (pss_one (ps_ret pe_bl))
 pss_nil)
 (pss_one (ps_ret (pe_and (pe_cmpR op_eq (pe_callB (id := "isinstance") call_isi (by rfl) T.isinstance (by decide +kernel) (pa_cons (pv 1) (pa_cons (pe_bltn (v := .ty "str") (by rfl) T.str (by decide +kernel) rfl) pa_nil))) (pe_callB (id := "isinstance") call_isi (by rfl) T.isinstance (by decide +kernel) (pa_cons (pv 0) (pa_cons (pe_bltn (v := .ty "str") (by rfl) T.str (by decide +kernel) rfl) pa_nil))) (nomark _)) (pe_one (pe_cmpR op_eq (pv 0) (pv 1) (nomark _)))))))))), ?_⟩
    have k0 := k H (Same.refl H)
    -- if due is None or found is None
    refine ⟨_, rfl, rfl, _, rfl, ?_⟩
    by_cases c0 : d = .none
    · subst c0
      cases hx
      cases hy
      exact ⟨_, rfl, rfl, true, rfl, ⟨_, rfl, rfl, k0⟩⟩
    · have nx : decide (x = V.non) = false := decide_eq_false (fun z => by subst z; cases hx; exact c0 rfl)
      have ny : decide (y = V.non) = false := decide_eq_false (fun z => by subst z; cases hy; exact c0 rfl)
      refine itF ny ?_
      refine ⟨_, rfl, rfl, _, rfl, ?_⟩
      refine itF nx ?_
      -- if isinstance(due, bool) or isinstance(found, bool)
      refine ⟨_, rfl, _, _, _, _, _, rfl, .ty _, dp_ty hy, kit_bool d, _, rfl, ?_⟩
      cases d with
      | none => exact absurd rfl c0
      | bool b =>
        cases hx
        cases hy
        refine ⟨_, rfl, _, _, _, _, _, rfl, .ty _, dp_ty (.bl b), kit_bool (.bool b), _, rfl, ?_⟩
        refine ⟨_, rfl, _, _, _, _, _, rfl, .ty _, dp_ty (.bl b), kit_bool (.bool b), _, rfl, ?_⟩
        refine ⟨_, rfl, _, rfl, rfl, ?_⟩
        have e : decide (V.bl b = V.bl b) = true := decide_eq_true rfl
        rw [e]
        exact k0
      | int i =>
        cases hx
        cases hy
        refine ⟨_, rfl, _, _, _, _, _, rfl, .ty _, dp_ty (.int i), kit_bool (.int i), _, rfl, ?_⟩
        refine ⟨_, rfl, sz2, fun tp ntp => ⟨_, _, _, _, _, _, rfl, upd_same, .cons (.ty _) (.cons (.ty _) .nil), dp_ty (.int i), kit_lt (.int i), _, rfl, ?_⟩⟩
        refine ⟨_, rfl, sz2, fun tq ntq => ⟨_, _, _, _, _, _, rfl, upd_same, .cons (.ty _) (.cons (.ty _) .nil), dp_ty (.int i), kit_lt (.int i), _, rfl, ?_⟩⟩
        have k1 := k _ ((Same.new ntp).trans (Same.new (o := .tup [V.ty "list", V.ty "tuple"]) ntq))
        refine ⟨_, rfl, _, _, _, _, _, rfl, .ty _, dp_ty (.int i), kit_int (.int i), _, rfl, _, _, _, _, _, rfl, .ty _, dp_ty (.int i), kit_int (.int i), rfl, _, rfl, ?_⟩
        refine ⟨_, rfl, _, _, _, _, _, rfl, .ty _, dp_ty (.int i), kit_str (.int i), _, rfl, _, _, _, _, _, rfl, .ty _, dp_ty (.int i), kit_str (.int i), rfl, _, rfl, ?_⟩
        refine ⟨_, rfl, _, rfl, rfl, ?_⟩
        have e : decide (V.int i = V.int i) = true := decide_eq_true rfl
        rw [e]
        exact k1
      | str z =>
        cases hx
        cases hy
        refine ⟨_, rfl, _, _, _, _, _, rfl, .ty _, dp_ty (.str z), kit_bool (.str z), _, rfl, ?_⟩
        refine ⟨_, rfl, sz2, fun tp ntp => ⟨_, _, _, _, _, _, rfl, upd_same, .cons (.ty _) (.cons (.ty _) .nil), dp_ty (.str z), kit_lt (.str z), _, rfl, ?_⟩⟩
        refine ⟨_, rfl, sz2, fun tq ntq => ⟨_, _, _, _, _, _, rfl, upd_same, .cons (.ty _) (.cons (.ty _) .nil), dp_ty (.str z), kit_lt (.str z), _, rfl, ?_⟩⟩
        have k1 := k _ ((Same.new ntp).trans (Same.new (o := .tup [V.ty "list", V.ty "tuple"]) ntq))
        refine ⟨_, rfl, _, _, _, _, _, rfl, .ty _, dp_ty (.str z), kit_int (.str z), _, rfl, _, _, _, _, _, rfl, .ty _, dp_ty (.str z), kit_int (.str z), rfl, _, rfl, ?_⟩
        refine ⟨_, rfl, _, _, _, _, _, rfl, .ty _, dp_ty (.str z), kit_str (.str z), _, rfl, _, _, _, _, _, rfl, .ty _, dp_ty (.str z), kit_str (.str z), rfl, _, rfl, ?_⟩
        refine ⟨_, rfl, _, rfl, rfl, ?_⟩
        have e : decide (V.str z = V.str z) = true := decide_eq_true rfl
        rw [e]
        exact k1
      | list ds =>
        cases hx with
        | lst sx ax =>
        rename_i xa xs
        cases hy with
        | lst sy ay =>
        rename_i ya ys
        cases n with
        | zero => exact absurd hd (by unfold okD; exact Bool.false_ne_true)
        | succ n =>
        have hd' : (decide (ds.length ≤ 1000) && ds.all (okD n)) = true := by unfold okD at hd; exact hd
        rw [Bool.and_eq_true, decide_eq_true_eq] at hd'
        obtain ⟨hl, hall⟩ := hd'
        have dx : Dp K H (.ref xa) (.list ds) := .lst sx ax
        have dy : Dp K H (.ref ya) (.list ds) := .lst sy ay
        refine ⟨_, rfl, _, _, _, _, _, rfl, .ty _, dp_ty dx, kit_bool (.list ds), _, rfl, ?_⟩
        refine ⟨_, rfl, sz2, fun tp ntp => ⟨_, _, _, _, _, _, rfl, upd_same, .cons (.ty _) (.cons (.ty _) .nil), dp_ty (dp_mono (Same.new ntp) _ _ dy), kit_lt (.list ds), _, rfl, ?_⟩⟩
        have s1 : Same H (upd H tp (.tup [V.ty "list", V.ty "tuple"])) := Same.new ntp
        have dx1 := dp_mono s1 _ _ dx
        have dy1 := dp_mono s1 _ _ dy
        refine ⟨_, rfl, _, _, _, _, _, rfl, .ty _, dp_ty dy1, kit_list (.list ds), _, rfl, _, _, _, _, _, rfl, .ty _, dp_ty dx1, kit_list (.list ds), rfl, _, rfl, ?_⟩
        refine ⟨_, rfl, _, _, _, _, _, rfl, .ty _, dp_ty dy1, kit_tup (.list ds), _, rfl, _, _, _, _, _, rfl, .ty _, dp_ty dx1, kit_tup (.list ds), rfl, _, rfl, ?_⟩
        refine ⟨_, rfl, xa, xs, rfl, .inl (Evl.ex_l s1 sx), _, rfl, ya, ys, rfl, .inl (Evl.ex_l s1 sy), rfl, _, rfl, ?_⟩
        have el : decide (V.int (xs.length : Int) = V.int (ys.length : Int)) = true := decide_eq_true (by rw [dpAll_len ax, dpAll_len ay])
        rw [el]
        have hmin : ds.length = min xs.length ys.length := by rw [dpAll_len ax, dpAll_len ay, Nat.min_self]
        refine ⟨_, rfl, _, rfl, xa, ya, xs, ys, rfl, .inl ⟨Evl.ex_l s1 sx, Evl.ex_l s1 sy, ?_⟩⟩
        intro D nD
        refine same_all (K := K) (m := n) (fun u v => ⟨rfl, rfl, rfl⟩) (walk_zip hmin) (fun H' e => ⟨Evl.ex_l (s1.trans e) sx, Evl.ex_l (s1.trans e) sy⟩) nD (dpAll_mono s1 _ _ ax) (dpAll_mono s1 _ _ ay) hl hall fun H' s2 hD => ?_
        refine ⟨D, _, rfl, SqL.of hD, ?_⟩
        have ea : (List.replicate ds.length true).all id = true := by simp
        rw [ea]
        exact k H' (s1.trans s2)
      | tuple ds =>
        cases hx with
        | tup sx ax =>
        rename_i xa xs
        cases hy with
        | tup sy ay =>
        rename_i ya ys
        cases n with
        | zero => exact absurd hd (by unfold okD; exact Bool.false_ne_true)
        | succ n =>
        have hd' : (decide (ds.length ≤ 1000) && ds.all (okD n)) = true := by unfold okD at hd; exact hd
        rw [Bool.and_eq_true, decide_eq_true_eq] at hd'
        obtain ⟨hl, hall⟩ := hd'
        have dx : Dp K H (.ref xa) (.tuple ds) := .tup sx ax
        have dy : Dp K H (.ref ya) (.tuple ds) := .tup sy ay
        refine ⟨_, rfl, _, _, _, _, _, rfl, .ty _, dp_ty dx, kit_bool (.tuple ds), _, rfl, ?_⟩
        refine ⟨_, rfl, sz2, fun tp ntp => ⟨_, _, _, _, _, _, rfl, upd_same, .cons (.ty _) (.cons (.ty _) .nil), dp_ty (dp_mono (Same.new ntp) _ _ dy), kit_lt (.tuple ds), _, rfl, ?_⟩⟩
        have s1 : Same H (upd H tp (.tup [V.ty "list", V.ty "tuple"])) := Same.new ntp
        have dx1 := dp_mono s1 _ _ dx
        have dy1 := dp_mono s1 _ _ dy
        refine ⟨_, rfl, _, _, _, _, _, rfl, .ty _, dp_ty dy1, kit_list (.tuple ds), _, rfl, _, _, _, _, _, rfl, .ty _, dp_ty dx1, kit_list (.tuple ds), rfl, _, rfl, ?_⟩
        refine ⟨_, rfl, _, _, _, _, _, rfl, .ty _, dp_ty dy1, kit_tup (.tuple ds), _, rfl, _, _, _, _, _, rfl, .ty _, dp_ty dx1, kit_tup (.tuple ds), rfl, _, rfl, ?_⟩
        refine ⟨_, rfl, xa, xs, rfl, .inr (Evl.ex_t s1 sx), _, rfl, ya, ys, rfl, .inr (Evl.ex_t s1 sy), rfl, _, rfl, ?_⟩
        have el : decide (V.int (xs.length : Int) = V.int (ys.length : Int)) = true := decide_eq_true (by rw [dpAll_len ax, dpAll_len ay])
        rw [el]
        have hmin : ds.length = min xs.length ys.length := by rw [dpAll_len ax, dpAll_len ay, Nat.min_self]
        refine ⟨_, rfl, _, rfl, xa, ya, xs, ys, rfl, .inr ⟨Evl.ex_t s1 sx, Evl.ex_t s1 sy, ?_⟩⟩
        intro D nD
        refine same_all (K := K) (m := n) (fun u v => ⟨rfl, rfl, rfl⟩) (walk_zipT hmin) (fun H' e => ⟨Evl.ex_t (s1.trans e) sx, Evl.ex_t (s1.trans e) sy⟩) nD (dpAll_mono s1 _ _ ax) (dpAll_mono s1 _ _ ay) hl hall fun H' s2 hD => ?_
        refine ⟨D, _, rfl, SqL.of hD, ?_⟩
        have ea : (List.replicate ds.length true).all id = true := by simp
        rw [ea]
        exact k H' (s1.trans s2)
      | dict _ => cases hx
end
end Mine
namespace Mine
open PySem PySem.Spec PyProof.Rows L2
section
variable {P : Program} {w : World} {K : PySem.W.Frag} {mg : Str → Option Value} {base : Heap} {C CE fE fW fN fO : Addr}
theorem ok_InvalidNumber {f C : Addr} {fd : FuncData} (F : Fun K "__init__" "InvalidNumber.__init__" s_InvalidNumber_D_initD_ f fd) (T : ErrC K mg "InvalidNumber" "given" C f) : FnOk P w K mg base CX0 1 f fd ["self", "given"] (spErr1 C "InvalidNumber" "given") := by
  refine F.ok sc_InvalidNumber_D_initD_ (fun vs H Q E h => ?_) (fun cdv A outer s H vs Q E hr h => ?_)
  · obtain ⟨a, v, rfl, _⟩ := h
    rfl
  · obtain ⟨a, v, rfl, ha, k⟩ := h
    refine ⟨_, (pss_cons (ps_ost (pv 0) pe_str rfl)
 (pss_one (ps_ost (pv 0) (pv 1) rfl))), ?_⟩
    refine ⟨_, rfl, a, C, rfl, T.x, T.nc, .inl ⟨ha, fun d nd ne => ?_⟩⟩
    have e1 : upd (upd H d (exd d [("code", .str "InvalidNumber")])) a (exo a C (some d)) d = some (exd d [("code", .str "InvalidNumber")]) := by rw [upd_ne ne, upd_same]
    refine ⟨_, rfl, _, rfl, a, C, rfl, T.x, T.nf, .inr ⟨d, _, upd_same, e1, (by show 1 ≤ 900; decide), ?_⟩⟩
    refine k d _ nd ne ?_ upd_same fun b hba hbd => ?_
    · rw [upd_ne ne.symm, upd_same]
    · rw [upd_ne hbd, upd_ne hba, upd_ne hbd]
theorem ok_whole {fd : FuncData} (F : Fun K "is_whole" "is_whole" s_is_whole fW fd) (T : RatC K mg C CE fE fW fN fO) : FnOk P w K mg base CX0 1 fW fd ["value"] (spWhole K C) := by
  refine F.ok sc_is_whole (fun vs H Q E h => ?_) (fun cdv A outer s H vs Q E hr h => ?_)
  · obtain ⟨_, _, rfl, _⟩ := h
    rfl
  · obtain ⟨v, k, rfl, hk, q⟩ := h
    refine ⟨_, (pss_one (ps_ret (pe_and (pe_callB (id := "isinstance") call_isi (by rfl) T.isinstance (by decide +kernel) (pa_cons (pv 0) (pa_cons (pe_bltn (v := .ty "int") (by rfl) T.int (by decide +kernel) rfl) pa_nil))) (pe_one (pe_not (pe_callB (id := "isinstance") call_isi (by rfl) T.isinstance (by decide +kernel) (pa_cons (pv 0) (pa_cons (pe_bltn (v := .ty "bool") (by rfl) T.bool (by decide +kernel) rfl) pa_nil)))))))), ?_⟩
    cases hk with
    | int z =>
      refine ⟨_, rfl, _, _, _, _, _, rfl, .ty _, dp_ty (.int z), kit_int (.int z), true, rfl, ?_⟩
      exact ⟨_, rfl, _, _, _, _, _, rfl, .ty _, dp_ty (.int z), kit_bool (.int z), _, rfl, q⟩
    | rat ha =>
      obtain ⟨dx, ha⟩ := ha
      exact ⟨_, rfl, _, _, _, _, _, rfl, .ty _, T.tyi _ _ _ _ ha, T.ki, false, rfl, q⟩
    | dat hd w =>
      rename_i d
      refine ⟨_, rfl, _, _, _, _, _, rfl, .ty _, dp_ty hd, kit_int d, isIntD d, rfl, ?_⟩
      cases d with
      | bool b => exact ⟨_, rfl, _, _, _, _, _, rfl, .ty _, dp_ty hd, kit_bool (.bool b), _, rfl, q⟩
      | int i => cases w
      | none => exact q
      | str _ => exact q
      | list _ => exact q
      | tuple _ => exact q
      | dict _ => cases hd
theorem ok_number {fdW fd : FuncData} (F : Fun K "is_number" "is_number" s_is_number fN fd) (T : RatC K mg C CE fE fW fN fO) (G_whole : FnOk P w K mg base CX0 1 fW fdW ["value"] (spWhole K C)) (b_whole : Binds K fdW ["value"] []) : FnOk P w K mg base CX0 2 fN fd ["value"] (spNumber K C) := by
  refine F.ok sc_is_number (fun vs H Q E h => ?_) (fun cdv A outer s H vs Q E r_whole h => ?_)
  · obtain ⟨_, _, rfl, _⟩ := h
    rfl
  · obtain ⟨v, k, rfl, hk, q⟩ := h
    refine ⟨_, (pss_one (ps_ret (pe_or (pe_call G_whole r_whole rfl T.g_whole T.k_whole b_whole .nil pass0 (pa_cons (pv 0) pa_nil)) (pe_one (pe_callB (id := "isinstance") call_isi (by rfl) T.isinstance (by decide +kernel) (pa_cons (pv 0) (pa_cons (pe_glob (v := .ref _) rfl T.g_Ratio rfl) pa_nil))))))), ?_⟩
    refine ⟨_, rfl, v, k, rfl, hk, _, rfl, ?_⟩
    cases hk with
    | int z => exact q
    | rat ha =>
      obtain ⟨dx, ha⟩ := ha
      exact ⟨_, rfl, _, _, _, _, _, rfl, .own C, T.tyi _ _ _ _ ha, kit_self, q⟩
    | dat hd w => exact ⟨_, rfl, _, _, _, _, _, rfl, .own C, dp_ty hd, T.kd _, q⟩
theorem ok_Ratio {f : Addr} {fd fdE fdW : FuncData} {dvs : List V} {kws : List (Str × V)} (F : FunD K "__init__" "Ratio.__init__" (defArgs s_Ratio_D_initD_) (defBody s_Ratio_D_initD_) (defScope s_Ratio_D_initD_) dvs kws f fd) (T : RatC K mg C CE fE fW fN fO)
    (G_whole : FnOk P w K mg base CX0 1 fW fdW ["value"] (spWhole K C)) (b_whole : Binds K fdW ["value"] [])
    (G_InvalidNumber : FnOk P w K mg base CX0 1 fE fdE ["self", "given"] (spErr1 CE "InvalidNumber" "given")) (b_InvalidNumber : Binds K fdE ["self", "given"] []) : FnOk P w K mg base (L2.CX P w) 3 f fd ["self", "top", "bottom"] (spRat K C CE) := by
  refine F.ok sc_Ratio_D_initD_ (fun vs H Q E h => ?_) (fun cdv A outer s H vs Q E r_InvalidNumber h => ?_)
  · obtain ⟨_, _, _, _, _, _, rfl, _⟩ := h
    rfl
  · obtain ⟨a, dx, x, y, kx, ky, rfl, ha, hx, hy, kG, kX, kY⟩ := h
    have r_whole := r_InvalidNumber.mono (show 1 ≤ 2 by decide)
    refine ⟨_, (pss_cons (ps_if (pt_not (pt_val (pe_call G_whole r_whole rfl T.g_whole T.k_whole b_whole .nil pass0 (pa_cons (pv 1) pa_nil))))
 (pss_one (ps_raise rfl (takes_of rfl rfl rfl rfl) (pmk_oex T.x_InvalidNumber T.i_InvalidNumber T.t_InvalidNumber G_InvalidNumber r_InvalidNumber b_InvalidNumber .nil pass0 rfl T.g_InvalidNumber (pa_cons (pv 1) pa_nil))))
 pss_nil)
 (pss_cons (ps_if (PW.pt (pw_or (pt_not (pt_val (pe_call G_whole r_whole rfl T.g_whole T.k_whole b_whole .nil pass0 (pa_cons (pv 2) pa_nil)))) (pw_or1 (pt_cmpR op_eq (pv 2) pe_int (nomark _)))))
 (pss_one (ps_raise rfl (takes_of rfl rfl rfl rfl) (pmk_oex T.x_InvalidNumber T.i_InvalidNumber T.t_InvalidNumber G_InvalidNumber r_InvalidNumber b_InvalidNumber .nil pass0 rfl T.g_InvalidNumber (pa_cons (pv 2) pa_nil))))
 pss_nil)
 (pss_cons (ps_set (i := 3) sc_Ratio_D_initD_.nd rfl (Or.inl rfl) (pe_callBfun cr_gcd (by rfl) T.gcd (pa_cons (pv 1) (pa_cons (pv 2) pa_nil))))
 (pss_cons (ps_if (pt_cmpR op_lt (pv 2) pe_int (nomark _))
 (pss_one (ps_set (i := 3) sc_Ratio_D_initD_.nd rfl (Or.inl rfl) (pe_un un_neg (pv 3))))
 pss_nil)
 (pss_cons (ps_fld (pv 0) (pe_op op_fdivG (pv 1) (pv 3)) rfl)
 (pss_one (ps_fld (pv 0) (pe_op op_fdivG (pv 2) (pv 3)) rfl))))))), ?_⟩
    have rz : ∀ (v : V), Inval CE H E v → ∀ (p : Addr), H p = none → ∀ (d' : Addr) (H' : Hp), upd H p (exo p CE none) d' = none → d' ≠ p → (∀ b, b ≠ p → b ≠ d' → H' b = upd H p (exo p CE none) b) → del H' p d' = H' d' ∧ H d' = none ∧ E (.ref CE) (some d') (upd (del H' p) d' (invD v)) := fun v iv p np d' H' nd ne h3 => by
      rw [upd_ne ne] at nd
      have eq : upd (del H' p) d' (invD v) = upd H d' (invD v) := by
        funext b
        by_cases hb : b = d'
        · rw [hb, upd_same, upd_same]
        · rw [upd_ne hb, upd_ne hb]
          by_cases hba : b = p
          · rw [hba, del_same, np]
          · rw [del_ne hba, h3 b hba hb, upd_ne hba]
      rw [eq]
      exact ⟨del_ne ne, nd, iv d' nd⟩
    refine ⟨_, rfl, x, kx, rfl, hx, _, rfl, ?_⟩
    cases ex : kx.isI with
    | false =>
      refine ⟨_, rfl, (by show 1 ≤ 1000; decide), fun p np => ?_⟩
      refine ⟨p, x, rfl, upd_same, fun d' H' nd ne h1 h2 h3 => ⟨rfl, d', _, h1, h2, (rz x (kX ex) p np d' H' nd ne h3).2.1, (rz x (kX ex) p np d' H' nd ne h3).2.2⟩⟩
    | true =>
      refine ⟨_, rfl, y, ky, rfl, hy, _, rfl, ?_⟩
      cases ey : ky.isI with
      | false =>
        refine ⟨_, rfl, (by show 1 ≤ 1000; decide), fun p np => ?_⟩
        refine ⟨p, y, rfl, upd_same, fun d' H' nd ne h1 h2 h3 => ⟨rfl, d', _, h1, h2, (rz y (kY ex (.inl ey)) p np d' H' nd ne h3).2.1, (rz y (kY ex (.inl ey)) p np d' H' nd ne h3).2.2⟩⟩
      | true =>
        cases hx with
        | rat _ => cases ex
        | dat _ _ => cases ex
        | int n =>
        cases hy with
        | rat _ => cases ey
        | dat _ _ => cases ey
        | int d =>
        refine ⟨_, rfl, rfl, _, rfl, ?_⟩
        by_cases d0 : d = 0
        · refine itT (decide_eq_true (by rw [d0])) ?_
          refine ⟨_, rfl, (by show 1 ≤ 1000; decide), fun p np => ?_⟩
          have iv := kY rfl (.inr (by rw [d0]))
          refine ⟨p, _, rfl, upd_same, fun d' H' nd ne h1 h2 h3 => ⟨rfl, d', _, h1, h2, (rz _ iv p np d' H' nd ne h3).2.1, (rz _ iv p np d' H' nd ne h3).2.2⟩⟩
        · refine itF (decide_eq_false fun z => d0 (V.int.inj z)) ?_
          obtain ⟨bn, bd, q⟩ := kG n d rfl rfl d0
          refine ⟨_, rfl, _, rfl, _, _, rfl, ?_⟩
          refine ⟨_, rfl, _, _, rfl, rfl, _, rfl, ?_⟩
          have cd : ∀ i, CDivG i (sgcd n d) := sgcd_cd d0 bd (by decide) (by decide)
          unfold low at q
          by_cases dn : d < 0
          · refine itT (decide_eq_true dn) ?_
            have es : sgcd n d = -((Nat.gcd n.natAbs d.natAbs : Nat) : Int) := if_pos dn
            rw [es] at cd q
            refine ⟨_, rfl, _, rfl, ?_⟩
            refine ⟨_, rfl, _, rfl, _, _, rfl, rfl, cd n, _, rfl, a, C, dx, _, rfl, ha, T.cl, T.nT, (by show 0 < 1000; decide), ?_⟩
            refine ⟨_, rfl, _, rfl, _, _, rfl, rfl, cd d, _, rfl, a, C, dx, _, rfl, upd_same, T.cl, T.nB, (by show 1 < 1000; decide), ?_⟩
            rw [put_rat, upd_upd]
            exact q
          · refine itF (decide_eq_false dn) ?_
            have es : sgcd n d = ((Nat.gcd n.natAbs d.natAbs : Nat) : Int) := if_neg dn
            rw [es] at cd q
            refine ⟨_, rfl, _, rfl, _, _, rfl, rfl, cd n, _, rfl, a, C, dx, _, rfl, ha, T.cl, T.nT, (by show 0 < 1000; decide), ?_⟩
            refine ⟨_, rfl, _, rfl, _, _, rfl, rfl, cd d, _, rfl, a, C, dx, _, rfl, upd_same, T.cl, T.nB, (by show 1 < 1000; decide), ?_⟩
            rw [put_rat, upd_upd]
            exact q
theorem ok_rof {fR : Addr} {fd fdE fdW fdR : FuncData} {ds1 : List Value} (F : Fun K "ratio_of" "ratio_of" s_ratio_of fO fd) (T : RatC K mg C CE fE fW fN fO)
    (G_whole : FnOk P w K mg base CX0 1 fW fdW ["value"] (spWhole K C)) (b_whole : Binds K fdW ["value"] [])
    (G_InvalidNumber : FnOk P w K mg base CX0 1 fE fdE ["self", "given"] (spErr1 CE "InvalidNumber" "given")) (b_InvalidNumber : Binds K fdE ["self", "given"] [])
    (M_Ratio : Mk K C fR) (G_Ratio : FnOk P w K mg base (L2.CX P w) 3 fR fdR ["self", "top", "bottom"] (spRat K C CE)) (b1_Ratio : Vals [.int 1] ds1 ∧ Binds K fdR ["self", "top", "bottom"] ds1) : FnOk P w K mg base (L2.CX P w) 5 fO fd ["value"] (spRof K C CE) := by
  refine F.okX sc_ratio_of (fun vs H Q E h => ?_) (fun cdv A outer s H vs Q E r_Ratio h => ?_)
  · obtain ⟨_, _, rfl, _⟩ := h
    rfl
  · obtain ⟨v, k, rfl, hk, kR, kI, kN⟩ := h
    have r_whole := r_Ratio.mono (show 1 ≤ 4 by decide)
    have r_InvalidNumber := r_Ratio.mono (show 2 ≤ 4 by decide)
    refine ⟨_, (pss_cons (ps_if (pt_val (pe_callB (id := "isinstance") call_isi (by rfl) T.isinstance (by decide +kernel) (pa_cons (pv 0) (pa_cons (pe_glob (v := .ref _) rfl T.g_Ratio rfl) pa_nil))))
 (pss_one (ps_ret (pv 0)))
 pss_nil)
 (pss_cons (ps_if (pt_not (pt_val (pe_call G_whole r_whole rfl T.g_whole T.k_whole b_whole .nil pass0 (pa_cons (pv 0) pa_nil))))
 (pss_one (ps_raise rfl (takes_of rfl rfl rfl rfl) (pmk_oex T.x_InvalidNumber T.i_InvalidNumber T.t_InvalidNumber G_InvalidNumber r_InvalidNumber b_InvalidNumber .nil pass0 rfl T.g_InvalidNumber (pa_cons (pv 0) pa_nil))))
 pss_nil)
 (pss_one (ps_ret (pe_make M_Ratio G_Ratio r_Ratio rfl T.g_Ratio b1_Ratio.2 b1_Ratio.1 passL (pa_cons (pv 0) pa_nil)))))), ?_⟩
    cases hk with
    | rat ha =>
      rename_i a n d
      obtain ⟨dx, ha'⟩ := ha
      exact ⟨_, rfl, _, _, _, _, _, rfl, .own C, T.tyi _ _ _ _ ha', kit_self, true, rfl, _, rfl, kR n d rfl⟩
    | int z =>
      obtain ⟨bz, q⟩ := kI z rfl
      refine ⟨_, rfl, _, _, _, _, _, rfl, .own C, dp_ty (.int z), T.kd (.int z), false, rfl, ?_⟩
      refine ⟨_, rfl, _, _, rfl, .int z, _, rfl, ?_⟩
      refine ⟨_, rfl, fun p dx np nd ne => ⟨p, dx, _, _, .i z, .i 1, rfl, upd_same, .int z, .int 1, fun n d e1 e2 _ => ?_, fun z => (nomatch z), fun _ z => z.elim (fun z => nomatch z) (fun z => nomatch z)⟩⟩
      cases e1
      cases e2
      refine ⟨bz, Bt.one (by decide), rfl, ?_⟩
      rw [upd_upd, low_of (lo_one z)]
      exact q p _ np (Same.make np nd) ⟨dx, upd_same⟩
    | dat hd w =>
      refine ⟨_, rfl, _, _, _, _, _, rfl, .own C, dp_ty hd, T.kd _, false, rfl, ?_⟩
      refine ⟨_, rfl, _, _, rfl, .dat hd w, _, rfl, ?_⟩
      refine ⟨_, rfl, (by show 1 ≤ 1000; decide), fun p np => ?_⟩
      refine ⟨p, v, rfl, upd_same, fun d' H' nd ne h1 h2 h3 => ⟨rfl, d', _, h1, h2, ?_, ?_⟩⟩
      · rw [upd_ne ne] at nd
        exact nd
      · rw [upd_ne ne] at nd
        have eq : upd (del H' p) d' (invD v) = upd H d' (invD v) := by
          funext b
          by_cases hb : b = d'
          · rw [hb, upd_same, upd_same]
          · rw [upd_ne hb, upd_ne hb]
            by_cases hba : b = p
            · rw [hba, del_same, np]
            · rw [del_ne hba, h3 b hba hb, upd_ne hba]
        show E (.ref CE) (some d') (upd (del H' p) d' (invD v))
        rw [eq]
        exact kN rfl d' nd
end
end Mine
namespace Mine
open PySem PySem.Spec PyProof.Rows L2
section
variable {P : Program} {w : World} {K : PySem.W.Frag} {mg : Str → Option Value} {base : Heap} {C CE fE fW fN fO : Addr}
theorem rof_use {H : Hp} {y : V} {k : Kr} {Q : VK} {E : XK} (hk : KindR K C H y k) (hN : k.isN = true) (hb : Bt 8000 k.top) (q : ∀ p H', Same H H' → RatAt C H' p k.top k.bot → Q (.ref p) H') : spRof K C CE [y] H Q E := by
  refine ⟨y, k, rfl, hk, fun n d e => ?_, fun z e => ?_, fun e => by rw [e] at hN; cases hN⟩
  · subst e
    cases hk with
    | rat ha => exact q _ H (Same.refl H) ha
  · subst e
    exact ⟨hb, fun p H' _ s hp => q p H' s hp⟩
theorem mk_rat {H : Hp} {n d : Int} {Q : VK} {E : XK} (h : d ≠ 0) (bn : Bt 8000 n) (bd : Bt 8000 d) (q : NewRat C H Q (low n d).1 (low n d).2) (x dx : Addr) (nx : H x = none) (nd : H dx = none) :
    spRat K C CE [.ref x, .int n, .int d] (upd (upd H dx (.own x)) x (.ins C dx [])) (fun v H2 => v = .non ∧ Q (.ref x) H2) E := by
  refine ⟨x, dx, _, _, .i n, .i d, rfl, upd_same, .int n, .int d, fun n' d' e1 e2 _ => ?_, fun z => (nomatch z), fun _ z => z.elim (fun z => nomatch z) (fun z => by cases z; exact absurd rfl h)⟩
  cases e1
  cases e2
  refine ⟨bn, bd, rfl, ?_⟩
  rw [upd_upd]
  exact q x _ nx (Same.make nx nd) ⟨dx, upd_same⟩
theorem ok_neg {f fR : Addr} {fd fdR : FuncData} (F : Fun K "__neg__" "Ratio.__neg__" s_Ratio_D_negD_ f fd) (T : RatC K mg C CE fE fW fN fO)
    (M_Ratio : Mk K C fR) (G_Ratio : FnOk P w K mg base (L2.CX P w) 3 fR fdR ["self", "top", "bottom"] (spRat K C CE)) (b2_Ratio : Binds K fdR ["self", "top", "bottom"] []) : FnOk P w K mg base CX0 5 f fd ["self"] (spUn C fun n => -n) := by
  refine F.ok sc_Ratio_D_negD_ (fun vs H Q E h => ?_) (fun cdv A outer s H vs Q E r_Ratio h => ?_)
  · obtain ⟨_, _, _, rfl, _⟩ := h
    rfl
  · obtain ⟨a, n, d, rfl, ⟨dx, ha⟩, lo, bn, bd, q⟩ := h
    refine ⟨_, (pss_one (ps_ret (pe_make M_Ratio G_Ratio r_Ratio rfl T.g_Ratio b2_Ratio .nil passL (pa_cons (pe_un un_neg (pe_fld (pv 0) rfl)) (pa_cons (pe_fld (pv 0) rfl) pa_nil))))), ?_⟩
    refine ⟨_, rfl, a, C, dx, _, _, rfl, ha, T.cl, T.nT, ratF_top _ _, _, rfl, _, rfl, a, C, dx, _, _, rfl, ha, T.cl, T.nB, ratF_bottom _ _, fun x dy nx nd _ => ?_⟩
    exact mk_rat (by have := lo.1; omega) (bn.neg.mono (by decide)) (bd.mono (by decide)) (by rw [low_of (lo_neg lo)]; exact q) x dy nx nd
theorem ok_abs {f fR : Addr} {fd fdR : FuncData} (F : Fun K "__abs__" "Ratio.__abs__" s_Ratio_D_absD_ f fd) (T : RatC K mg C CE fE fW fN fO)
    (M_Ratio : Mk K C fR) (G_Ratio : FnOk P w K mg base (L2.CX P w) 3 fR fdR ["self", "top", "bottom"] (spRat K C CE)) (b2_Ratio : Binds K fdR ["self", "top", "bottom"] []) : FnOk P w K mg base CX0 5 f fd ["self"] (spUn C fun n => if n < 0 then -n else n) := by
  refine F.ok sc_Ratio_D_absD_ (fun vs H Q E h => ?_) (fun cdv A outer s H vs Q E r_Ratio h => ?_)
  · obtain ⟨_, _, _, rfl, _⟩ := h
    rfl
  · obtain ⟨a, n, d, rfl, ⟨dx, ha⟩, lo, bn, bd, q⟩ := h
    refine ⟨_, (pss_one (ps_ret (pe_make M_Ratio G_Ratio r_Ratio rfl T.g_Ratio b2_Ratio .nil passL (pa_cons (pe_callB call_abs (by rfl) T.abs (by decide +kernel) (pa_cons (pe_fld (pv 0) rfl) pa_nil)) (pa_cons (pe_fld (pv 0) rfl) pa_nil))))), ?_⟩
    refine ⟨_, rfl, a, C, dx, _, _, rfl, ha, T.cl, T.nT, ratF_top _ _, _, rfl, _, rfl, a, C, dx, _, _, rfl, ha, T.cl, T.nB, ratF_bottom _ _, fun x dy nx nd _ => ?_⟩
    exact mk_rat (by have := lo.1; omega) (bn.abs.mono (by decide)) (bd.mono (by decide)) (by rw [low_of (lo_abs lo)]; exact q) x dy nx nd
theorem add_bits {n d m e : Int} (h1 : Bt 1000 n) (h2 : Bt 1000 d) (h3 : Bt 1000 m) (h4 : Bt 1000 e) : Bt 8000 (n * e + m * d) ∧ Bt 8000 (d * e) ∧ Bt 8000 (n * m) :=
  ⟨((h1.mul h4).add (h3.mul h2)).mono (by decide), (h2.mul h4).mono (by decide), (h1.mul h3).mono (by decide)⟩
theorem ok_add {f fR : Addr} {fd fdR fdN fdO : FuncData} (F : Fun K "__add__" "Ratio.__add__" s_Ratio_D_addD_ f fd) (T : RatC K mg C CE fE fW fN fO) (G_number : FnOk P w K mg base CX0 2 fN fdN ["value"] (spNumber K C)) (b_number : Binds K fdN ["value"] [])
    (G_rof : FnOk P w K mg base (L2.CX P w) 5 fO fdO ["value"] (spRof K C CE)) (b_rof : Binds K fdO ["value"] [])
    (M_Ratio : Mk K C fR) (G_Ratio : FnOk P w K mg base (L2.CX P w) 3 fR fdR ["self", "top", "bottom"] (spRat K C CE)) (b2_Ratio : Binds K fdR ["self", "top", "bottom"] []) : FnOk P w K mg base CX0 6 f fd ["self", "other"] (spBin K C fAdd) := by
  refine F.ok sc_Ratio_D_addD_ (fun vs H Q E h => ?_) (fun cdv A outer s H vs Q E r_rof h => ?_)
  · obtain ⟨_, _, _, _, _, rfl, _⟩ := h
    rfl
  · obtain ⟨a, n, d, y, k, rfl, ⟨dx, ha⟩, hk, hN, lo, lk, b1, b2, b3, b4, q⟩ := h
    have r_number := r_rof.mono (show 2 ≤ 5 by decide)
    have r_Ratio := r_rof.mono (show 4 ≤ 5 by decide)
    refine ⟨_, (pss_cons (ps_if (pt_not (pt_val (pe_call G_number r_number rfl T.g_number T.k_number b_number .nil pass0 (pa_cons (pv 1) pa_nil))))
 (pss_one (ps_ret (pe_dead)))
 pss_nil)
 (pss_cons (ps_set (i := 2) sc_Ratio_D_addD_.nd rfl (Or.inl rfl) (pe_call G_rof r_rof rfl T.g_rof T.k_rof b_rof .nil passL (pa_cons (pv 1) pa_nil)))
 (pss_one (ps_ret (pe_make M_Ratio G_Ratio r_Ratio rfl T.g_Ratio b2_Ratio .nil passL (pa_cons (pe_op op_add (pe_op op_mulW (pe_fld (pv 0) rfl) (pe_fld (pv 2) rfl)) (pe_op op_mulW (pe_fld (pv 2) rfl) (pe_fld (pv 0) rfl))) (pa_cons (pe_op op_mulW (pe_fld (pv 0) rfl) (pe_fld (pv 2) rfl)) pa_nil))))))), ?_⟩
    refine ⟨_, rfl, y, k, rfl, hk, _, rfl, ?_⟩
    rw [hN]
    refine ⟨_, rfl, rof_use hk hN (b3.mono (by decide)) fun p H1 s1 ⟨dp, hp⟩ => ?_⟩
    have ha1 := s1 _ _ ha
    refine ⟨_, rfl, a, C, dx, _, _, rfl, ha1, T.cl, T.nT, ratF_top _ _, _, rfl, p, C, dp, _, _, rfl, hp, T.cl, T.nB, ratF_bottom _ _, _, _, rfl, rfl, b1.cm b4 (by decide) (by decide) (by decide), ?_⟩
    refine ⟨_, rfl, p, C, dp, _, _, rfl, hp, T.cl, T.nT, ratF_top _ _, _, rfl, a, C, dx, _, _, rfl, ha1, T.cl, T.nB, ratF_bottom _ _, _, _, rfl, rfl, b3.cm b2 (by decide) (by decide) (by decide), _, _, rfl, rfl, ?_⟩
    refine ⟨_, rfl, a, C, dx, _, _, rfl, ha1, T.cl, T.nB, ratF_bottom _ _, _, rfl, p, C, dp, _, _, rfl, hp, T.cl, T.nB, ratF_bottom _ _, _, _, rfl, rfl, b2.cm b4 (by decide) (by decide) (by decide), fun x dy nx nd _ => ?_⟩
    obtain ⟨c1, c2, _⟩ := add_bits b1 b2 b3 b4
    refine mk_rat (Int.mul_ne_zero (by have := lo.1; omega) (by have := lk.1; omega)) c1 c2 (fun z H' nz sz hz => ?_) x dy nx nd
    exact q z H' (s1.free nz) (s1.trans sz) hz
theorem ok_mul {f fR : Addr} {fd fdR fdN fdO : FuncData} (F : Fun K "__mul__" "Ratio.__mul__" s_Ratio_D_mulD_ f fd) (T : RatC K mg C CE fE fW fN fO) (G_number : FnOk P w K mg base CX0 2 fN fdN ["value"] (spNumber K C)) (b_number : Binds K fdN ["value"] [])
    (G_rof : FnOk P w K mg base (L2.CX P w) 5 fO fdO ["value"] (spRof K C CE)) (b_rof : Binds K fdO ["value"] [])
    (M_Ratio : Mk K C fR) (G_Ratio : FnOk P w K mg base (L2.CX P w) 3 fR fdR ["self", "top", "bottom"] (spRat K C CE)) (b2_Ratio : Binds K fdR ["self", "top", "bottom"] []) : FnOk P w K mg base CX0 6 f fd ["self", "other"] (spBin K C fMul) := by
  refine F.ok sc_Ratio_D_mulD_ (fun vs H Q E h => ?_) (fun cdv A outer s H vs Q E r_rof h => ?_)
  · obtain ⟨_, _, _, _, _, rfl, _⟩ := h
    rfl
  · obtain ⟨a, n, d, y, k, rfl, ⟨dx, ha⟩, hk, hN, lo, lk, b1, b2, b3, b4, q⟩ := h
    have r_number := r_rof.mono (show 2 ≤ 5 by decide)
    have r_Ratio := r_rof.mono (show 4 ≤ 5 by decide)
    refine ⟨_, (pss_cons (ps_if (pt_not (pt_val (pe_call G_number r_number rfl T.g_number T.k_number b_number .nil pass0 (pa_cons (pv 1) pa_nil))))
 (pss_one (ps_ret (pe_dead)))
 pss_nil)
 (pss_cons (ps_set (i := 2) sc_Ratio_D_mulD_.nd rfl (Or.inl rfl) (pe_call G_rof r_rof rfl T.g_rof T.k_rof b_rof .nil passL (pa_cons (pv 1) pa_nil)))
 (pss_one (ps_ret (pe_make M_Ratio G_Ratio r_Ratio rfl T.g_Ratio b2_Ratio .nil passL (pa_cons (pe_op op_mulW (pe_fld (pv 0) rfl) (pe_fld (pv 2) rfl)) (pa_cons (pe_op op_mulW (pe_fld (pv 0) rfl) (pe_fld (pv 2) rfl)) pa_nil))))))), ?_⟩
    refine ⟨_, rfl, y, k, rfl, hk, _, rfl, ?_⟩
    rw [hN]
    refine ⟨_, rfl, rof_use hk hN (b3.mono (by decide)) fun p H1 s1 ⟨dp, hp⟩ => ?_⟩
    have ha1 := s1 _ _ ha
    refine ⟨_, rfl, a, C, dx, _, _, rfl, ha1, T.cl, T.nT, ratF_top _ _, _, rfl, p, C, dp, _, _, rfl, hp, T.cl, T.nT, ratF_top _ _, _, _, rfl, rfl, b1.cm b3 (by decide) (by decide) (by decide), ?_⟩
    refine ⟨_, rfl, a, C, dx, _, _, rfl, ha1, T.cl, T.nB, ratF_bottom _ _, _, rfl, p, C, dp, _, _, rfl, hp, T.cl, T.nB, ratF_bottom _ _, _, _, rfl, rfl, b2.cm b4 (by decide) (by decide) (by decide), fun x dy nx nd _ => ?_⟩
    obtain ⟨_, c2, c1⟩ := add_bits b1 b2 b3 b4
    refine mk_rat (Int.mul_ne_zero (by have := lo.1; omega) (by have := lk.1; omega)) c1 c2 (fun z H' nz sz hz => ?_) x dy nx nd
    exact q z H' (s1.free nz) (s1.trans sz) hz
/-- self op other, other an int -/
def spBinI (C : Addr) (f : Int → Int → Int → Int → Int × Int) : Sp := fun vs H Q _ => ∃ (a : Addr) (n d i : Int), vs = [.ref a, .int i] ∧ RatAt C H a n d ∧ Lo n d ∧ Bt 1000 n ∧ Bt 1000 d ∧ Bt 1000 i ∧ NewRat C H Q (low (f n d i 1).1 (f n d i 1).2).1 (low (f n d i 1).1 (f n d i 1).2).2
theorem binI_of {f : Int → Int → Int → Int → Int × Int} {a : Addr} {i : Int} {H : Hp} {Q : VK} {E : XK} {n d : Int} (h : RatAt C H a n d) (lo : Lo n d) (b1 : Bt 1000 n) (b2 : Bt 1000 d) (b3 : Bt 1000 i) (q : NewRat C H Q (low (f n d i 1).1 (f n d i 1).2).1 (low (f n d i 1).1 (f n d i 1).2).2) :
    spBin K C f [.ref a, .int i] H Q E := ⟨a, n, d, _, .i i, rfl, h, .int i, rfl, lo, lo_one i, b1, b2, b3, Bt.one (by decide), q⟩
end
section
variable {P : Program} {w : World} {K : PySem.W.Frag} {mg : Str → Option Value} {base : Heap} {C CE fE fW fN fO fA gA fS gS fM gM fG fB : Addr}
theorem ok_radd {fd fdA : FuncData} (F : Fun K "__radd__" "Ratio.__radd__" s_Ratio_D_raddD_ gA fd) (T : RatO K mg C CE fE fW fN fO fA gA fS gS fM gM fG fB) (G_add : FnOk P w K mg base CX0 6 fA fdA ["self", "other"] (spBin K C fAdd)) (b_add : Binds K fdA ["self", "other"] []) : FnOk P w K mg base CX0 7 gA fd ["self", "other"] (spBinI C fAdd) := by
  refine F.ok sc_Ratio_D_raddD_ (fun vs H Q E h => ?_) (fun cdv A outer s H vs Q E r_add h => ?_)
  · obtain ⟨_, _, _, _, rfl, _⟩ := h
    rfl
  · obtain ⟨a, n, d, i, rfl, ⟨dx, ha⟩, lo, b1, b2, b3, q⟩ := h
    refine ⟨_, (pss_one (ps_ret (pe_op (op_binI G_add T.o_add T.i_add T.ir_add r_add b_add) (pv 0) (pv 1)))), ?_⟩
    exact ⟨_, rfl, _, rfl, a, dx, _, i, rfl, rfl, ha, binI_of ⟨dx, ha⟩ lo b1 b2 b3 q⟩
theorem ok_rmul {fd fdM : FuncData} (F : Fun K "__rmul__" "Ratio.__rmul__" s_Ratio_D_rmulD_ gM fd) (T : RatO K mg C CE fE fW fN fO fA gA fS gS fM gM fG fB) (G_mul : FnOk P w K mg base CX0 6 fM fdM ["self", "other"] (spBin K C fMul)) (b_mul : Binds K fdM ["self", "other"] []) : FnOk P w K mg base CX0 7 gM fd ["self", "other"] (spBinI C fMul) := by
  refine F.ok sc_Ratio_D_rmulD_ (fun vs H Q E h => ?_) (fun cdv A outer s H vs Q E r_mul h => ?_)
  · obtain ⟨_, _, _, _, rfl, _⟩ := h
    rfl
  · obtain ⟨a, n, d, i, rfl, ⟨dx, ha⟩, lo, b1, b2, b3, q⟩ := h
    refine ⟨_, (pss_one (ps_ret (pe_op (op_binI G_mul T.o_mul T.i_mul T.ir_mul r_mul b_mul) (pv 0) (pv 1)))), ?_⟩
    exact ⟨_, rfl, _, rfl, a, dx, _, i, rfl, rfl, ha, binI_of ⟨dx, ha⟩ lo b1 b2 b3 q⟩
theorem ok_sub {fd fdA fdG fdN fdO : FuncData} (F : Fun K "__sub__" "Ratio.__sub__" s_Ratio_D_subD_ fS fd) (T : RatO K mg C CE fE fW fN fO fA gA fS gS fM gM fG fB) (G_number : FnOk P w K mg base CX0 2 fN fdN ["value"] (spNumber K C)) (b_number : Binds K fdN ["value"] [])
    (G_rof : FnOk P w K mg base (L2.CX P w) 5 fO fdO ["value"] (spRof K C CE)) (b_rof : Binds K fdO ["value"] []) (G_add : FnOk P w K mg base CX0 6 fA fdA ["self", "other"] (spBin K C fAdd)) (b_add : Binds K fdA ["self", "other"] [])
    (G_neg : FnOk P w K mg base CX0 5 fG fdG ["self"] (spUn C fun n => -n)) (b_neg : Binds K fdG ["self"] []) : FnOk P w K mg base CX0 7 fS fd ["self", "other"] (spBin K C fSub) := by
  refine F.ok sc_Ratio_D_subD_ (fun vs H Q E h => ?_) (fun cdv A outer s H vs Q E r_add h => ?_)
  · obtain ⟨_, _, _, _, _, rfl, _⟩ := h
    rfl
  · obtain ⟨a, n, d, y, k, rfl, ⟨dx, ha⟩, hk, hN, lo, lk, b1, b2, b3, b4, q⟩ := h
    have r_number := r_add.mono (show 2 ≤ 6 by decide)
    have r_rof := r_add.mono (show 5 ≤ 6 by decide)
    have r_neg := r_add.mono (show 5 ≤ 6 by decide)
    refine ⟨_, (pss_cons (ps_if (pt_not (pt_val (pe_call G_number r_number rfl T.g_number T.k_number b_number .nil pass0 (pa_cons (pv 1) pa_nil))))
 (pss_one (ps_ret (pe_dead)))
 pss_nil)
 (pss_one (ps_ret (pe_op (op_binO G_add T.o_add r_add b_add) (pv 0) (pe_un (un_negO G_neg T.s_neg r_neg b_neg) (pe_call G_rof r_rof rfl T.g_rof T.k_rof b_rof .nil passL (pa_cons (pv 1) pa_nil))))))), ?_⟩
    refine ⟨_, rfl, y, k, rfl, hk, _, rfl, ?_⟩
    rw [hN]
    have core : ∀ p H1, Same H H1 → RatAt C H1 p k.top k.bot → rUnO C (spUn C fun n => -n) (.ref p) H1 (fun y' H2 => rBinO C (spBin K C fAdd) (.ref a) y' H2 Q) := fun p H1 s1 ⟨dp, hp⟩ => by
      refine ⟨p, dp, _, rfl, hp, p, _, _, rfl, ⟨dp, hp⟩, lk, b3.mono (by decide), b4.mono (by decide), fun z H2 nz s2 ⟨dz, hz⟩ => ?_⟩
      have s12 := s1.trans s2
      refine ⟨a, dx, _, z, dz, _, rfl, rfl, s12 _ _ ha, hz, a, n, d, _, .r (-k.top) k.bot, rfl, ⟨dx, s12 _ _ ha⟩, .rat ⟨dz, hz⟩, rfl, lo, lo_neg lk, b1, b2, b3.neg, b4, fun p' H' np' s' hp' => ?_⟩
      exact q p' H' (s12.free np') (s12.trans s') hp'
    refine ⟨_, rfl, _, rfl, y, k, rfl, hk, fun n' d' e => ?_, fun z e => ⟨?_, fun p H' _ s' hp => ?_⟩, fun e => by rw [e] at hN; cases hN⟩
    · subst e
      cases hk with
      | rat h => exact core _ H (Same.refl H) h
    · subst e
      exact b3.mono (by decide)
    · subst e
      exact core p H' s' hp
theorem ok_rsub {fd fdA fdG fdN fdO : FuncData} (F : Fun K "__rsub__" "Ratio.__rsub__" s_Ratio_D_rsubD_ gS fd) (T : RatO K mg C CE fE fW fN fO fA gA fS gS fM gM fG fB) (G_number : FnOk P w K mg base CX0 2 fN fdN ["value"] (spNumber K C)) (b_number : Binds K fdN ["value"] [])
    (G_rof : FnOk P w K mg base (L2.CX P w) 5 fO fdO ["value"] (spRof K C CE)) (b_rof : Binds K fdO ["value"] []) (G_add : FnOk P w K mg base CX0 6 fA fdA ["self", "other"] (spBin K C fAdd)) (b_add : Binds K fdA ["self", "other"] [])
    (G_neg : FnOk P w K mg base CX0 5 fG fdG ["self"] (spUn C fun n => -n)) (b_neg : Binds K fdG ["self"] []) : FnOk P w K mg base CX0 7 gS fd ["self", "other"] (spBin K C fRsub) := by
  refine F.ok sc_Ratio_D_rsubD_ (fun vs H Q E h => ?_) (fun cdv A outer s H vs Q E r_add h => ?_)
  · obtain ⟨_, _, _, _, _, rfl, _⟩ := h
    rfl
  · obtain ⟨a, n, d, y, k, rfl, ⟨dx, ha⟩, hk, hN, lo, lk, b1, b2, b3, b4, q⟩ := h
    have r_number := r_add.mono (show 2 ≤ 6 by decide)
    have r_rof := r_add.mono (show 5 ≤ 6 by decide)
    have r_neg := r_add.mono (show 5 ≤ 6 by decide)
    refine ⟨_, (pss_cons (ps_if (pt_not (pt_val (pe_call G_number r_number rfl T.g_number T.k_number b_number .nil pass0 (pa_cons (pv 1) pa_nil))))
 (pss_one (ps_ret (pe_dead)))
 pss_nil)
 (pss_one (ps_ret (pe_op (op_binO G_add T.o_add r_add b_add) (pe_call G_rof r_rof rfl T.g_rof T.k_rof b_rof .nil passL (pa_cons (pv 1) pa_nil)) (pe_un (un_negO G_neg T.s_neg r_neg b_neg) (pv 0)))))), ?_⟩
    refine ⟨_, rfl, y, k, rfl, hk, _, rfl, ?_⟩
    rw [hN]
    have core : ∀ p H1, Same H H1 → RatAt C H1 p k.top k.bot → rUnO C (spUn C fun n => -n) (.ref a) H1 (fun y' H2 => rBinO C (spBin K C fAdd) (.ref p) y' H2 Q) := fun p H1 s1 ⟨dp, hp⟩ => by
      have ha1 := s1 _ _ ha
      refine ⟨a, dx, _, rfl, ha1, a, _, _, rfl, ⟨dx, ha1⟩, lo, b1.mono (by decide), b2.mono (by decide), fun z H2 nz s2 ⟨dz, hz⟩ => ?_⟩
      refine ⟨p, dp, _, z, dz, _, rfl, rfl, s2 _ _ hp, hz, p, k.top, k.bot, _, .r (-n) d, rfl, ⟨dp, s2 _ _ hp⟩, .rat ⟨dz, hz⟩, rfl, lk, lo_neg lo, b3, b4, b1.neg, b2, fun p' H' np' s' hp' => ?_⟩
      exact q p' H' (s1.free (s2.free np')) ((s1.trans s2).trans s') hp'
    refine ⟨_, rfl, y, k, rfl, hk, fun n' d' e => ?_, fun z e => ⟨?_, fun p H' _ s' hp => ?_⟩, fun e => by rw [e] at hN; cases hN⟩
    · subst e
      cases hk with
      | rat h => exact ⟨_, rfl, core _ H (Same.refl H) h⟩
    · subst e
      exact b3.mono (by decide)
    · subst e
      exact ⟨_, rfl, core p H' s' hp⟩
end
end Mine
namespace Mine
open PySem PySem.Spec PyProof.Rows L2
structure TxtD (K : PySem.W.Frag) (mg : Str → Option Value) (C fD : Addr) : Prop where
  abs : mg "abs" = none
  str : mg "str" = none
  g_dig : mg "digits_of" = some (.ref fD)
  k_dig : PySem.W.keepIn K (.ref fD) = true
  cl : Cls K C
  nT : NoAttr K C "top"
  nB : NoAttr K C "bottom"
structure RuleS (K : PySem.W.Frag) (C fS : Addr) : Prop where
  str : Spec K C "__str__" fS
  fmt : FmtC K C
def spRatRepr (C : Addr) : Sp := fun vs H Q _ => ∃ (a : Addr) (n d : Int), vs = [.ref a] ∧ RatAt C H a n d ∧ D60 n ∧ D60 d ∧ Q (.str (Str.empty ++ "Ratio(" ++ ratText n d ++ ")")) H
theorem rat_len {n d : Int} (h1 : D60 n) (h2 : D60 d) : (ratText n d).length ≤ 200 := by
  have a := h1.len
  have b := h2.len
  have l : ("/" : Str).length = 1 := by decide +kernel
  unfold ratText
  split
  · omega
  · rw [Str.length_append, Str.length_append]
    omega
section
variable {P : Program} {w : World} {K : PySem.W.Frag} {mg : Str → Option Value} {base : Heap} {C CE fE fW fN fO fD : Addr}
theorem ok_dig {fd : FuncData} (F : Fun K "digits_of" "digits_of" s_digits_of fD fd) (T : TxtD K mg C fD) : FnOk P w K mg base CX0 1 fD fd ["number"] spDig := by
  refine F.ok sc_digits_of (fun vs H Q E h => ?_) (fun cdv A outer s H vs Q E hr h => ?_)
  · obtain ⟨_, rfl, _⟩ := h
    rfl
  · obtain ⟨n, rfl, hn, q⟩ := h
    refine ⟨_, (pss_cons (ps_par3 (i := 1) (j := 2) (l := 3) (by rfl) sc_digits_of.nd rfl rfl rfl (by decide) (by decide) (by decide) rfl rfl rfl (pa_cons (pe_op op_pow pe_int pe_int) (pa_cons (pe_callB call_abs (by rfl) T.abs (by decide +kernel) (pa_cons (pv 0) pa_nil)) (pa_cons pe_str pa_nil))) (by rfl))
 (pss_cons (ps_while PassesOwn.never (pt_cmpR op_ge (pv 2) (pv 1) (nomark _))
 (pss_cons (ps_set (i := 3) sc_digits_of.nd rfl (Or.inl rfl) (pe_op op_add (pe_dead) (pv 3)))
 (pss_one (ps_set (i := 2) sc_digits_of.nd rfl (Or.inl rfl) (pe_op op_fdiv (pv 2) (pv 1))))))
 (pss_one (ps_ret (pe_joined (PJ.cons (pe_fmt (pe_ifExp (pt_cmpR op_lt (pv 0) pe_int (nomark _)) pe_str pe_str)) (PJ.cons (pe_fmt (pv 2)) (PJ.cons (pe_fmt (pv 3)) PJ.nil)))))))), ?_⟩
    refine ⟨_, _, rfl, rfl, ⟨by decide, by decide, by decide⟩, _, rfl, _, rfl, _, _, _, rfl, ?_⟩
    refine ⟨fun m σ' H' => σ' = [some (.int n), some (.int (10 ^ (60 : Int).toNat)), some (.int (if n < 0 then -n else n)), some (.str "")] ∧ H' = H, ⟨0, rfl, rfl⟩, ?_⟩
    rintro m σ' H' ⟨rfl, rfl⟩
    have hlt : ¬ ((10 : Int) ^ (60 : Int).toNat ≤ (if n < 0 then -n else n)) := by
      rw [abs_nat']
      have : ((n.natAbs : Nat) : Int) < ((10 ^ 60 : Nat) : Int) := Int.ofNat_lt.mpr hn
      show ¬ (((10 : Int) ^ 60) ≤ ((n.natAbs : Nat) : Int))
      omega
    refine ⟨_, rfl, _, rfl, _, _, rfl, rfl, _, rfl, ?_⟩
    refine itF (decide_eq_false hlt) ?_
    have h61 := hn.abs.len
    have l0 : (Str.empty : Str).length = 0 := rfl
    have l1 : ("-" : Str).length = 1 := by decide +kernel
    have l2 : ("" : Str).length = 0 := by decide +kernel
    have es := itext_sign n
    refine ⟨_, rfl, _, _, rfl, rfl, _, rfl, ?_⟩
    by_cases ng : n < 0
    · refine itT (decide_eq_true ng) ?_
      rw [if_pos ng] at es h61
      refine .inl ⟨"-", rfl, szle (by omega), "-", rfl, szle (by rw [Str.length_append]; omega), _, rfl, ?_⟩
      rw [if_pos ng]
      have hl := hn.abs.log
      rw [if_pos ng] at hl es
      refine .inr ⟨_, rfl, hl, _, rfl, szle ?_, _, rfl, .inl ⟨"", rfl, szle (by omega), "", rfl, szle ?_, ?_⟩⟩
      · rw [Str.length_append, Str.length_append]
        show 0 + 1 + (itext (-n)).length ≤ 100000
        omega
      · rw [Str.length_append, Str.length_append, Str.length_append]
        show 0 + 1 + (itext (-n)).length + 0 ≤ 100000
        omega
      · rw [← es] at q
        exact q
    · refine itF (decide_eq_false ng) ?_
      rw [if_neg ng] at es h61
      refine .inl ⟨"", rfl, szle (by omega), "", rfl, szle (by rw [Str.length_append]; omega), _, rfl, ?_⟩
      rw [if_neg ng]
      have hl := hn.abs.log
      rw [if_neg ng] at hl es
      refine .inr ⟨_, rfl, hl, _, rfl, szle ?_, _, rfl, .inl ⟨"", rfl, szle (by omega), "", rfl, szle ?_, ?_⟩⟩
      · rw [Str.length_append, Str.length_append]
        show 0 + 0 + (itext n).length ≤ 100000
        omega
      · rw [Str.length_append, Str.length_append, Str.length_append]
        show 0 + 0 + (itext n).length + 0 ≤ 100000
        omega
      · rw [← es] at q
        exact q
theorem ok_ratstr {f : Addr} {fd fdD : FuncData} (F : Fun K "__str__" "Ratio.__str__" s_Ratio_D_strD_ f fd) (T : TxtD K mg C fD) (G_dig : FnOk P w K mg base CX0 1 fD fdD ["number"] spDig) (b_dig : Binds K fdD ["number"] []) : FnOk P w K mg base CX0 2 f fd ["self"] (spRatStr C) := by
  refine F.ok sc_Ratio_D_strD_ (fun vs H Q E h => ?_) (fun cdv A outer s H vs Q E r_dig h => ?_)
  · obtain ⟨_, _, _, rfl, _⟩ := h
    rfl
  · obtain ⟨a, n, d, rfl, ⟨dx, ha⟩, hn, hd, q⟩ := h
    refine ⟨_, (pss_cons (ps_if (pt_cmpR op_eq (pe_fld (pv 0) rfl) pe_int (nomark _))
 (pss_one (ps_ret (pe_callTy SkE.call_str_str (by rfl) T.str (by decide +kernel) (pa_cons (pe_call G_dig r_dig rfl T.g_dig T.k_dig b_dig .nil pass0 (pa_cons (pe_fld (pv 0) rfl) pa_nil)) pa_nil))))
 pss_nil)
 (pss_one (ps_ret (pe_joined (PJ.cons (pe_fmt (pe_call G_dig r_dig rfl T.g_dig T.k_dig b_dig .nil pass0 (pa_cons (pe_fld (pv 0) rfl) pa_nil))) (PJ.cons pe_str (PJ.cons (pe_fmt (pe_call G_dig r_dig rfl T.g_dig T.k_dig b_dig .nil pass0 (pa_cons (pe_fld (pv 0) rfl) pa_nil))) PJ.nil))))))), ?_⟩
    have a1 := hn.len
    have a2 := hd.len
    have l0 : (Str.empty : Str).length = 0 := rfl
    have l1 : ("/" : Str).length = 1 := by decide +kernel
    refine ⟨_, rfl, a, C, dx, _, _, rfl, ha, T.cl, T.nB, ratF_bottom _ _, rfl, _, rfl, ?_⟩
    unfold ratText at q
    by_cases c : d = 1
    · refine itT (decide_eq_true (by rw [c])) ?_
      rw [if_pos c] at q
      exact ⟨_, rfl, a, C, dx, _, _, rfl, ha, T.cl, T.nT, ratF_top _ _, n, rfl, hn, _, rfl, q⟩
    · refine itF (decide_eq_false fun z => c (V.int.inj z)) ?_
      rw [if_neg c] at q
      refine ⟨_, rfl, a, C, dx, _, _, rfl, ha, T.cl, T.nT, ratF_top _ _, n, rfl, hn, .inl ⟨_, rfl, szle (by omega), _, rfl, szle (by rw [Str.length_append]; omega), "/", rfl, szle (by rw [Str.length_append, Str.length_append]; omega), ?_⟩⟩
      refine ⟨_, rfl, a, C, dx, _, _, rfl, ha, T.cl, T.nB, ratF_bottom _ _, d, rfl, hd, .inl ⟨_, rfl, szle (by omega), _, rfl, szle (by rw [Str.length_append, Str.length_append, Str.length_append]; omega), ?_⟩⟩
      rw [empty_app]
      exact q
theorem ok_ratrepr {f fS : Addr} {fd fdS : FuncData} (F : Fun K "__repr__" "Ratio.__repr__" s_Ratio_D_reprD_ f fd) (T2 : RuleS K C fS) (G_str : FnOk P w K mg base CX0 2 fS fdS ["self"] (spRatStr C)) (b_str : Binds K fdS ["self"] []) : FnOk P w K mg base CX0 4 f fd ["self"] (spRatRepr C) := by
  refine F.ok sc_Ratio_D_reprD_ (fun vs H Q E h => ?_) (fun cdv A outer s H vs Q E r_str h => ?_)
  · obtain ⟨_, _, _, rfl, _⟩ := h
    rfl
  · obtain ⟨a, n, d, rfl, ⟨dx, ha⟩, hn, hd, q⟩ := h
    refine ⟨_, (pss_one (ps_ret (pe_joined (PJ.cons pe_str (PJ.cons (pe_fmtO G_str T2.str T2.fmt r_str b_str (pv 0)) (PJ.cons pe_str PJ.nil)))))), ?_⟩
    have l0 : (Str.empty : Str).length = 0 := rfl
    have l1 : ("Ratio(" : Str).length = 6 := by decide +kernel
    have l2 : (")" : Str).length = 1 := by decide +kernel
    have lt := rat_len hn hd
    refine ⟨"Ratio(", rfl, szle (by rw [Str.length_append]; omega), _, rfl, a, dx, _, rfl, ha, a, n, d, rfl, ⟨dx, ha⟩, hn, hd, _, rfl, _, rfl, szle (by rw [Str.length_append, Str.length_append]; omega), ")", rfl, szle (by rw [Str.length_append, Str.length_append, Str.length_append]; omega), q⟩
def spPairText (K : PySem.W.Frag) : Sp := fun vs H Q _ => ∃ (t : Addr) (n d : Int), vs = [.ref t] ∧ SqT K H t [.int n, .int d] ∧ D60 n ∧ D60 d ∧ Q (.str (ratText n d)) H
theorem ok_pair_text {f : Addr} {fd : FuncData} (F : Fun K "_law_pair_text" "_law_pair_text" s_L_pair_text f fd) (T : TxtD K mg C fD) : FnOk P w K mg base CX0 1 f fd ["_law_pair_here"] (spPairText K) := by
  refine F.ok sc_L_pair_text (fun vs H Q E h => ?_) (fun cdv A outer s H vs Q E hr h => ?_)
  · obtain ⟨_, _, _, rfl, _⟩ := h
    rfl
  · obtain ⟨t, n, d, rfl, ht, hn, hd, q⟩ := h
    refine ⟨_, (pss_one (ps_ret (pe_ifExp (pt_cmpR op_eq (pe_ix ix_tup (pv 0) pe_int (fun _ _ => rfl)) pe_int (nomark _)) (pe_callTy call_str_int (by rfl) T.str (by decide +kernel) (pa_cons (pe_ix ix_tup (pv 0) pe_int (fun _ _ => rfl)) pa_nil)) (pe_op op_add_str (pe_op op_add_str (pe_callTy call_str_int (by rfl) T.str (by decide +kernel) (pa_cons (pe_ix ix_tup (pv 0) pe_int (fun _ _ => rfl)) pa_nil)) pe_str) (pe_callTy call_str_int (by rfl) T.str (by decide +kernel) (pa_cons (pe_ix ix_tup (pv 0) pe_int (fun _ _ => rfl)) pa_nil)))))), ?_⟩
    have a1 := hn.len
    have a2 := hd.len
    have l1 : ("/" : Str).length = 1 := by decide +kernel
    unfold itext at a1 a2
    unfold ratText itext at q
    refine ⟨_, rfl, t, _, 1, _, rfl, rfl, ht, rfl, rfl, _, rfl, ?_⟩
    by_cases c : d = 1
    · refine itT (decide_eq_true (by rw [c])) ?_
      rw [if_pos c] at q
      exact ⟨_, rfl, t, _, 0, _, rfl, rfl, ht, rfl, n, rfl, hn.log, q⟩
    · refine itF (decide_eq_false fun z => c (V.int.inj z)) ?_
      rw [if_neg c] at q
      refine ⟨_, rfl, t, _, 0, _, rfl, rfl, ht, rfl, n, rfl, hn.log, _, _, rfl, rfl, szle (by omega), ?_⟩
      exact ⟨_, rfl, t, _, 1, _, rfl, rfl, ht, rfl, d, rfl, hd.log, _, _, rfl, rfl, szle (by rw [Str.length_append]; omega), q⟩
end
end Mine
namespace Mine
open PySem PySem.Spec PyProof.Rows L2
structure TxtU (K : PySem.W.Frag) (mg : Str → Option Value) (CU C CE fE fW fN fO fS CF fF : Addr) (tk : Tok) : Prop extends RatC K mg C CE fE fW fN fO where
  ucl : Cls K CU
  uA : NoAttr K CU "arity"
  uM : NoAttr K CU "mirror"
  uC : NoAttr K CU "centre"
  uD : NoAttr K CU "degree"
  uS : NoAttr K CU "swap"
  uT : NoAttr K CU "text"
  g_Unseen : mg "Unseen" = some (.ref CU)
  g_MOST : mg "MOST_DEGREE" = some (.int 3 tk)
  str : mg "str" = none
  s_rstr : Spec K C "__str__" fS
  x_InvalidFact : OexC K CF
  i_InvalidFact : PySem.W.findIn K (.ref CF) "__init__" = some (some (.ref fF))
  t_InvalidFact : PySem.W.typeIn K (.ref fF) = some (.type "function")
  g_InvalidFact : mg "InvalidFact" = some (.ref CF)
section
variable {P : Program} {w : World} {K : PySem.W.Frag} {mg : Str → Option Value} {base : Heap} {CU C CE fE fW fN fO fS CF fF : Addr} {tk : Tok}
theorem ok_InvalidFact {f C : Addr} {fd : FuncData} (F : Fun K "__init__" "InvalidFact.__init__" s_InvalidFact_D_initD_ f fd) (T : ErrC K mg "InvalidFact" "what" C f) : FnOk P w K mg base CX0 1 f fd ["self", "what"] (spErr1 C "InvalidFact" "what") := by
  refine F.ok sc_InvalidFact_D_initD_ (fun vs H Q E h => ?_) (fun cdv A outer s H vs Q E hr h => ?_)
  · obtain ⟨a, v, rfl, _⟩ := h
    rfl
  · obtain ⟨a, v, rfl, ha, k⟩ := h
    refine ⟨_, (pss_cons (ps_ost (pv 0) pe_str rfl)
 (pss_one (ps_ost (pv 0) (pv 1) rfl))), ?_⟩
    refine ⟨_, rfl, a, C, rfl, T.x, T.nc, .inl ⟨ha, fun d nd ne => ?_⟩⟩
    have e1 : upd (upd H d (exd d [("code", .str "InvalidFact")])) a (exo a C (some d)) d = some (exd d [("code", .str "InvalidFact")]) := by rw [upd_ne ne, upd_same]
    refine ⟨_, rfl, _, rfl, a, C, rfl, T.x, T.nf, .inr ⟨d, _, upd_same, e1, (by show 1 ≤ 900; decide), ?_⟩⟩
    refine k d _ nd ne ?_ upd_same fun b hba hbd => ?_
    · rw [upd_ne ne.symm, upd_same]
    · rw [upd_ne hbd, upd_ne hba, upd_ne hbd]
theorem ok_Unseen {f : Addr} {fd fdF fdN fdO fdS : FuncData} {dvs : List V} {kws : List (Str × V)} (F : FunD K "__init__" "Unseen.__init__" (defArgs s_Unseen_D_initD_) (defBody s_Unseen_D_initD_) (defScope s_Unseen_D_initD_) dvs kws f fd) (T : TxtU K mg CU C CE fE fW fN fO fS CF fF tk)
    (G_number : FnOk P w K mg base CX0 2 fN fdN ["value"] (spNumber K C)) (b_number : Binds K fdN ["value"] []) (G_rof : FnOk P w K mg base (L2.CX P w) 5 fO fdO ["value"] (spRof K C CE)) (b_rof : Binds K fdO ["value"] [])
    (G_rstr : FnOk P w K mg base CX0 2 fS fdS ["self"] (spRatStr C)) (b_rstr : Binds K fdS ["self"] [])
    (G_InvalidFact : FnOk P w K mg base CX0 1 fF fdF ["self", "what"] (spErr1 CF "InvalidFact" "what")) (b_InvalidFact : Binds K fdF ["self", "what"] []) : FnOk P w K mg base (L2.CX P w) 6 f fd ["self", "arity", "mirror", "centre", "degree", "swap"] (spUns K CU C) := by
  refine F.ok sc_Unseen_D_initD_ (fun vs H Q E h => ?_) (fun cdv A outer s H vs Q E hr h => ?_)
  · obtain ⟨_, _, _, _, _, rfl, _⟩ := h
    rfl
  · obtain ⟨a, dx, y, k, f, rfl, ha, hk, hN, kt, kb, ok, q⟩ := h
    have r_number := hr.mono (show 2 ≤ 5 by decide)
    have r_rof := hr
    have r_rstr := hr.mono (show 4 ≤ 5 by decide)
    have r_InvalidFact := hr.mono (show 2 ≤ 5 by decide)
    refine ⟨_, (Evl.pss_cut (ps_if (PW.pt (pw_or (pt_val (pe_callB (id := "isinstance") call_isi (by rfl) T.isinstance (by decide +kernel) (pa_cons (pv 1) (pa_cons (pe_bltn (v := .ty "bool") (by rfl) T.bool (by decide +kernel) rfl) pa_nil)))) (pw_or1 (pt_cmpR (op_notInT (hu65 hr)) (pv 1) (pe_tup (pa_cons pe_int (pa_cons pe_int pa_nil))) (by rfl)))))
 (pss_one (ps_raise rfl (takes_of rfl rfl rfl rfl) (pmk_oex T.x_InvalidFact T.i_InvalidFact T.t_InvalidFact G_InvalidFact r_InvalidFact b_InvalidFact .nil pass0 rfl T.g_InvalidFact (pa_cons pe_str pa_nil))))
 pss_nil)
 (Evl.pss_cut (ps_if (PW.pt (pw_and (pt_cmpR op_notN (pv 2) pe_non (nomark _)) (pw_and1 (PW.pt (pw_or (pt_cmpR op_ne (pv 1) pe_int (nomark _)) (pw_or1 (pt_cmpR (op_notInT (hu65 hr)) (pv 2) (pe_tup (pa_cons pe_str (pa_cons pe_str pa_nil))) (by rfl))))))))
 (pss_one (ps_raise rfl (takes_of rfl rfl rfl rfl) (pmk_oex T.x_InvalidFact T.i_InvalidFact T.t_InvalidFact G_InvalidFact r_InvalidFact b_InvalidFact .nil pass0 rfl T.g_InvalidFact (pa_cons pe_str pa_nil))))
 pss_nil)
 (Evl.pss_cut (ps_if (PW.pt (pw_or (pt_not (pt_val (pe_call G_number r_number rfl T.g_number T.k_number b_number .nil pass0 (pa_cons (pv 3) pa_nil)))) (pw_or1 (PW.pt (pw_and (pt_cmpR op_isN (pv 2) pe_non (nomark _)) (pw_and1 (pt_cmpR op_ne (pe_fld (pe_call G_rof r_rof rfl T.g_rof T.k_rof b_rof .nil passL (pa_cons (pv 3) pa_nil)) rfl) pe_int (nomark _))))))))
 (pss_one (ps_raise rfl (takes_of rfl rfl rfl rfl) (pmk_oex T.x_InvalidFact T.i_InvalidFact T.t_InvalidFact G_InvalidFact r_InvalidFact b_InvalidFact .nil pass0 rfl T.g_InvalidFact (pa_cons pe_str pa_nil))))
 pss_nil)
 (Evl.pss_cut (ps_if (PW.pt (pw_and (pt_cmpR op_notN (pv 4) pe_non (nomark _)) (pw_and1 (PW.pt (pw_or (pt_cmpR op_ne (pv 1) pe_int (nomark _)) (pw_or (pt_val (pe_callB (id := "isinstance") call_isi (by rfl) T.isinstance (by decide +kernel) (pa_cons (pv 4) (pa_cons (pe_bltn (v := .ty "bool") (by rfl) T.bool (by decide +kernel) rfl) pa_nil)))) (pw_or1 (pt_cmpR (op_notInT (hu65 hr)) (pv 4) (pe_tup (pa_cons pe_int (pa_cons pe_int (pa_cons pe_int (pa_cons (pe_glob (v := .int 3) rfl T.g_MOST ⟨_, rfl⟩) pa_nil))))) (by rfl)))))))))
 (pss_one (ps_raise rfl (takes_of rfl rfl rfl rfl) (pmk_oex T.x_InvalidFact T.i_InvalidFact T.t_InvalidFact G_InvalidFact r_InvalidFact b_InvalidFact .nil pass0 rfl T.g_InvalidFact (pa_cons pe_str pa_nil))))
 pss_nil)
 (Evl.pss_cut (ps_if (PW.pt (pw_and (pt_cmpR op_notN (pv 5) pe_non (nomark _)) (pw_and1 (PW.pt (pw_or (pt_cmpR op_ne (pv 1) pe_int (nomark _)) (pw_or1 (pt_cmpR (op_notInT (hu65 hr)) (pv 5) (pe_tup (pa_cons pe_str (pa_cons pe_str pa_nil))) (by rfl))))))))
 (pss_one (ps_raise rfl (takes_of rfl rfl rfl rfl) (pmk_oex T.x_InvalidFact T.i_InvalidFact T.t_InvalidFact G_InvalidFact r_InvalidFact b_InvalidFact .nil pass0 rfl T.g_InvalidFact (pa_cons pe_str pa_nil))))
 pss_nil)
 (pss_cons (ps_fld (pv 0) (pv 1) rfl)
 (pss_cons (ps_fld (pv 0) (pv 2) rfl)
 (Evl.pss_cut (ps_fld (pv 0) (pe_call G_rof r_rof rfl T.g_rof T.k_rof b_rof .nil passL (pa_cons (pv 3) pa_nil)) rfl)
 (pss_cons (ps_fld (pv 0) (pv 4) rfl)
 (pss_cons (ps_fld (pv 0) (pv 5) rfl)
 (pss_cons (ps_set (i := 6) sc_Unseen_D_initD_.nd rfl (Or.inl rfl) (pe_lst (pa_cons (pe_callTy call_str_int (by rfl) T.str (by decide +kernel) (pa_cons (pv 1) pa_nil)) pa_nil)))
 (Evl.pss_cut (ps_if (pt_cmpR op_notN (pv 2) pe_non (nomark _))
 (pss_one (ps_set (i := 6) sc_Unseen_D_initD_.nd rfl (Or.inl rfl) (pe_op op_cat (pv 6) (pe_lst (pa_cons (pv 2) (pa_cons (pe_callTy (call_strO G_rstr T.s_rstr r_rstr b_rstr) (by rfl) T.str (by decide +kernel) (pa_cons (pe_fld (pv 0) rfl) pa_nil)) pa_nil))))))
 pss_nil)
 (Evl.pss_cut (ps_if (pt_cmpR op_notN (pv 4) pe_non (nomark _))
 (pss_one (ps_set (i := 6) sc_Unseen_D_initD_.nd rfl (Or.inl rfl) (pe_op op_cat (pv 6) (pe_lst (pa_cons pe_str (pa_cons (pe_callTy call_str_int (by rfl) T.str (by decide +kernel) (pa_cons (pv 4) pa_nil)) pa_nil))))))
 pss_nil)
 (Evl.pss_cut (ps_if (pt_cmpR op_notN (pv 5) pe_non (nomark _))
 (pss_one (ps_expr (pe_bm PySem.F.plainAttrs_list PySem.F.slot_list_append PySem.F.type_list_append mt_append (pv 6) (pa_cons (pv 5) pa_nil))))
 pss_nil)
 (pss_one (ps_fld (pv 0) (pe_join pe_str (pv 6)) rfl)))))))))))))))), ?_⟩
    obtain ⟨ar, mi, n, d, de, sw⟩ := f
    have oar : ar = 1 ∨ ar = 2 := ok.ar
    have omi : mi = none ∨ (ar = 1 ∧ (mi = some "even" ∨ mi = some "odd")) := ok.mi
    have oc0 : mi = none → n = 0 := ok.c0
    have ode : de = none ∨ (ar = 1 ∧ (de = some 0 ∨ de = some 1 ∨ de = some 2 ∨ de = some 3)) := ok.de
    have osw : sw = none ∨ (ar = 2 ∧ (sw = some "same" ∨ sw = some "minus")) := ok.sw
    have kt : k.top = n := kt
    have kb : k.bot = d := kb
    have bt : Bt 8000 k.top := by rw [kt]; exact ok.n60.mono (by decide)
    -- arity
    refine ⟨fun σ' H' => σ' = [some (.ref a), some (.int ar), some (vS mi), some y, some (vI de), some (vS sw), none] ∧ Same H H', ?_, ?_⟩
    · refine ⟨_, rfl, _, _, _, _, _, rfl, .ty _, dp_ty (.int ar), kit_bool (.int ar), _, rfl, ?_⟩
      refine ⟨_, rfl, sz2, fun t nt => ⟨.int ar, [.int 1, .int 2], .int ar, .tup (SqT.of upd_same) (.cons (.int _) (.cons (.int _) .nil)), rfl, by decide +kernel, _, rfl, ?_⟩⟩
      refine itF (by rcases oar with e | e <;> rw [e] <;> decide +kernel) ?_
      exact ⟨rfl, Same.new nt⟩
    rintro σ' H1 ⟨rfl, s1⟩
    -- mirror
    refine ⟨fun σ' H' => σ' = [some (.ref a), some (.int ar), some (vS mi), some y, some (vI de), some (vS sw), none] ∧ Same H H', ?_, ?_⟩
    · rcases omi with rfl | ⟨rfl, e⟩
      · exact ⟨_, rfl, rfl, _, rfl, rfl, s1⟩
      · rcases e with rfl | rfl
        all_goals
          refine ⟨_, rfl, rfl, _, rfl, ?_⟩
          refine ⟨_, rfl, rfl, _, rfl, ?_⟩
          refine ⟨_, rfl, sz2, fun t nt => ⟨.str _, [.str "even", .str "odd"], .str _, .tup (SqT.of upd_same) (.cons (.str _) (.cons (.str _) .nil)), by decide +kernel, by decide +kernel, _, rfl, ?_⟩⟩
          refine itF (by decide +kernel) ?_
          exact ⟨rfl, s1.trans (Same.new nt)⟩
    clear s1
    rintro σ' H1 ⟨rfl, s1⟩
    -- centre
    refine ⟨fun σ' H' => σ' = [some (.ref a), some (.int ar), some (vS mi), some y, some (vI de), some (vS sw), none] ∧ Same H H', ?_, ?_⟩
    · refine ⟨_, rfl, y, k, rfl, hk.mono s1, _, rfl, ?_⟩
      rw [hN]
      by_cases c : mi = none
      · refine ⟨_, rfl, rfl, _, rfl, ?_⟩
        refine itT (by rw [c]; rfl) ?_
        have n0 := oc0 c
        refine ⟨_, rfl, y, k, rfl, hk.mono s1, fun n' d' e => ?_, fun z e => ⟨?_, fun p H' np s' hp => ?_⟩, fun e => by rw [e] at hN; cases hN⟩
        · subst e
          cases hk with
          | rat hp =>
            obtain ⟨dp, hp⟩ := hp.mono s1
            refine ⟨_, C, dp, _, _, rfl, hp, T.cl, T.nT, ratF_top _ _, rfl, _, rfl, ?_⟩
            refine itF (by rw [show n' = n from kt, n0]; rfl) ?_
            exact ⟨rfl, s1⟩
        · subst e
          exact bt
        · subst e
          obtain ⟨dp, hp⟩ := hp
          refine ⟨p, C, dp, _, _, rfl, hp, T.cl, T.nT, ratF_top _ _, rfl, _, rfl, ?_⟩
          refine itF (by rw [show z = n from kt, n0]; rfl) ?_
          exact ⟨rfl, s1.trans s'⟩
      · refine ⟨_, rfl, rfl, _, rfl, ?_⟩
        refine itF (by cases mi; exact absurd rfl c; rfl) ?_
        exact ⟨rfl, s1⟩
    clear s1
    rintro σ' H1 ⟨rfl, s1⟩
    -- degree
    refine ⟨fun σ' H' => σ' = [some (.ref a), some (.int ar), some (vS mi), some y, some (vI de), some (vS sw), none] ∧ Same H H', ?_, ?_⟩
    · rcases ode with rfl | ⟨rfl, e⟩
      · exact ⟨_, rfl, rfl, _, rfl, rfl, s1⟩
      · rcases e with rfl | rfl | rfl | rfl
        all_goals
          refine ⟨_, rfl, rfl, _, rfl, ?_⟩
          refine ⟨_, rfl, rfl, _, rfl, ?_⟩
          refine ⟨_, rfl, _, _, _, _, _, rfl, .ty _, dp_ty (.int _), kit_bool (.int _), _, rfl, ?_⟩
          refine ⟨_, rfl, (by show 4 ≤ sizeLine; decide), fun t nt => ⟨.int _, [.int 0, .int 1, .int 2, .int 3], .int _, .tup (SqT.of upd_same) (.cons (.int _) (.cons (.int _) (.cons (.int _) (.cons (.int _) .nil)))), by decide +kernel, by decide +kernel, _, rfl, ?_⟩⟩
          refine itF (by decide +kernel) ?_
          exact ⟨rfl, s1.trans (Same.new nt)⟩
    clear s1
    rintro σ' H1 ⟨rfl, s1⟩
    -- swap
    refine ⟨fun σ' H' => σ' = [some (.ref a), some (.int ar), some (vS mi), some y, some (vI de), some (vS sw), none] ∧ Same H H', ?_, ?_⟩
    · rcases osw with rfl | ⟨rfl, e⟩
      · exact ⟨_, rfl, rfl, _, rfl, rfl, s1⟩
      · rcases e with rfl | rfl
        all_goals
          refine ⟨_, rfl, rfl, _, rfl, ?_⟩
          refine ⟨_, rfl, rfl, _, rfl, ?_⟩
          refine ⟨_, rfl, sz2, fun t nt => ⟨.str _, [.str "same", .str "minus"], .str _, .tup (SqT.of upd_same) (.cons (.str _) (.cons (.str _) .nil)), by decide +kernel, by decide +kernel, _, rfl, ?_⟩⟩
          refine itF (by decide +kernel) ?_
          exact ⟨rfl, s1.trans (Same.new nt)⟩
    clear s1
    rintro σ' H1 ⟨rfl, s1⟩
    have ha1 := s1 _ _ ha
    -- the fields
    refine ⟨_, rfl, _, rfl, a, CU, dx, _, rfl, ha1, T.ucl, T.uA, (by show 0 < 1000; decide), ?_⟩
    refine ⟨_, rfl, _, rfl, a, CU, dx, _, rfl, upd_same, T.ucl, T.uM, (by show 1 < 1000; decide), ?_⟩
    have ex0 : ExA a H (upd (upd H1 a (.ins CU dx (putF "arity" (.int ar) []))) a (.ins CU dx (putF "mirror" (vS mi) (putF "arity" (.int ar) [])))) := (ExA.of s1).upd.upd
    refine ⟨fun σ' H' => ∃ p, σ' = [some (.ref a), some (.int ar), some (vS mi), some y, some (vI de), some (vS sw), none] ∧ ExA a H H' ∧ H' a = some (.ins CU dx (unsF3 ⟨ar, mi, n, d, de, sw⟩ p)) ∧ RatAt C H' p n d, ?_, ?_⟩
    · have hk2 := kindN_exA ha hk hN ex0
      refine ⟨_, rfl, y, k, rfl, hk2, fun n' d' e => ?_, fun z e => ⟨?_, fun p H' np s' hp => ?_⟩, fun e => by rw [e] at hN; cases hN⟩
      · subst e
        cases hk2 with
        | rat hp =>
          rename_i p
          refine ⟨_, rfl, a, CU, dx, _, rfl, upd_same, T.ucl, T.uC, (by show 2 < 1000; decide), ?_⟩
          have hp : RatAt C _ p n d := (show n' = n from kt) ▸ (show d' = d from kb) ▸ hp
          refine ⟨p, rfl, ex0.upd, ?_, ?_⟩
          · rw [upd_same, ← put_3]
          · obtain ⟨dp, hp⟩ := hp
            refine ⟨dp, ?_⟩
            rw [upd_ne (fun e => by rw [e, upd_same] at hp; cases hp)]
            exact hp
      · subst e
        exact bt
      · subst e
        have hp : RatAt C H' p n d := (show z = n from kt) ▸ (show (1 : Int) = d from kb) ▸ hp
        refine ⟨_, rfl, a, CU, dx, _, rfl, s' _ _ upd_same, T.ucl, T.uC, (by show 2 < 1000; decide), ?_⟩
        refine ⟨p, rfl, (ex0.same s').upd, ?_, ?_⟩
        · rw [upd_same, ← put_3]
        · obtain ⟨dp, hp⟩ := hp
          refine ⟨dp, ?_⟩
          rw [upd_ne (fun e => by rw [e, s' _ _ upd_same] at hp; cases hp)]
          exact hp
    clear ex0 ha1 s1 H1
    rintro σ' H1 ⟨p, rfl, ex1, ha1, hp1⟩
    have d60n : D60 n := ok.n60.d60
    have d60d : D60 d := ok.d60.d60
    have d60a : D60 ar := by rcases oar with e | e <;> rw [e] <;> (show (_ : Nat) < _; decide)
    -- degree, swap, the first word
    refine ⟨_, rfl, _, rfl, a, CU, dx, _, rfl, ha1, T.ucl, T.uD, (by show 3 < 1000; decide), ?_⟩
    refine ⟨_, rfl, _, rfl, a, CU, dx, _, rfl, upd_same, T.ucl, T.uS, (by rw [putF_nm (k := "degree") (ns := ["arity", "mirror", "centre"]) rfl (by decide +kernel)]; show 4 < 1000; decide), ?_⟩
    have e5 := put_5 ⟨ar, mi, n, d, de, sw⟩ p
    dsimp only at e5
    rw [e5, upd_upd]
    have hpa : ∀ o, RatAt C (upd H1 a o) p n d := fun o => by
      obtain ⟨dp, hp⟩ := hp1
      refine ⟨dp, ?_⟩
      rw [upd_ne (fun e => by rw [e, ha1] at hp; cases hp)]
      exact hp
    refine ⟨_, rfl, ar, rfl, d60a.log, (by show 1 ≤ sizeLine; decide), fun l0 nl0 => ?_⟩
    have nf0 : ∀ {l : Addr} {H' : Hp}, ExA a H H' → H' a ≠ none → H' l = none → H l = none := fun {l H'} ex na nl => by
      cases e : H l with
      | none => rfl
      | some o =>
        by_cases c : l = a
        · rw [c] at nl
          exact absurd nl na
        · rw [ex l o c e] at nl
          cases nl
    have inv0 : ExA a H (upd (upd H1 a (.ins CU dx (unsF5 ⟨ar, mi, n, d, de, sw⟩ p))) l0 (.lst [.str (itext ar)])) ∧ upd (upd H1 a (.ins CU dx (unsF5 ⟨ar, mi, n, d, de, sw⟩ p))) l0 (.lst [.str (itext ar)]) a = some (.ins CU dx (unsF5 ⟨ar, mi, n, d, de, sw⟩ p)) ∧ RatAt C (upd (upd H1 a (.ins CU dx (unsF5 ⟨ar, mi, n, d, de, sw⟩ p))) l0 (.lst [.str (itext ar)])) p n d ∧ H l0 = none :=
      ⟨ex1.upd.same (Same.new nl0), (Same.new nl0) _ _ upd_same, (hpa _).mono (Same.new nl0), nf0 ex1.upd (by rw [upd_same]; exact fun z => nomatch z) nl0⟩
    -- the mirror's words
    refine ⟨fun σ' H' => ∃ l, σ' = [some (.ref a), some (.int ar), some (vS mi), some y, some (vI de), some (vS sw), some (.ref l)] ∧ (ExA a H H' ∧ H' a = some (.ins CU dx (unsF5 ⟨ar, mi, n, d, de, sw⟩ p)) ∧ RatAt C H' p n d ∧ H l = none) ∧ H' l = some (.lst (([itext ar] ++ miW n d mi).map V.str)), ?_, ?_⟩
    · cases mi with
      | none => exact ⟨_, rfl, rfl, _, rfl, l0, rfl, inv0, upd_same⟩
      | some m =>
        obtain ⟨i1, i2, ⟨dp, i3⟩, i4⟩ := inv0
        refine ⟨_, rfl, rfl, _, rfl, ?_⟩
        refine ⟨_, rfl, _, rfl, _, rfl, a, CU, dx, _, _, rfl, i2, T.ucl, T.uC, unsF5_centre _ _, _, rfl, p, dp, _, rfl, i3, p, n, d, rfl, ⟨dp, i3⟩, d60n, d60d, _, rfl, sz2, fun l1 nl1 => ?_⟩
        have v1 := Same.new (o := .lst [.str m, .str (ratText n d)]) nl1
        refine ⟨l0, l1, _, _, rfl, rfl, v1 _ _ upd_same, upd_same, (by show 1 + 2 ≤ sizeLine; decide), fun l2 nl2 => ?_⟩
        have v2 := v1.trans (Same.new (o := .lst ([.str (itext ar)] ++ [.str m, .str (ratText n d)])) nl2)
        refine ⟨l2, rfl, ⟨i1.same v2, v2 _ _ i2, RatAt.mono ⟨dp, i3⟩ v2, nf0 (i1.same v1) (by rw [v1 _ _ i2]; exact fun z => nomatch z) nl2⟩, upd_same⟩
    clear inv0 hpa nl0 l0 ha1 hp1 ex1 H1
    rintro σ' H1 ⟨l0, rfl, inv0, hl0⟩
    -- the degree's words
    refine ⟨fun σ' H' => ∃ l, σ' = [some (.ref a), some (.int ar), some (vS mi), some y, some (vI de), some (vS sw), some (.ref l)] ∧ (ExA a H H' ∧ H' a = some (.ins CU dx (unsF5 ⟨ar, mi, n, d, de, sw⟩ p)) ∧ RatAt C H' p n d ∧ H l = none) ∧ H' l = some (.lst (([itext ar] ++ miW n d mi ++ deW de).map V.str)), ?_, ?_⟩
    · cases de with
      | none =>
        refine ⟨_, rfl, rfl, _, rfl, l0, rfl, inv0, ?_⟩
        rw [hl0]
        show some (HO.lst (([itext ar] ++ miW n d mi).map V.str)) = some (HO.lst (([itext ar] ++ miW n d mi ++ []).map V.str))
        rw [List.append_nil]
      | some g =>
        have d60g : D60 g := by
          rcases ode with e | ⟨_, e⟩
          · cases e
          · rcases e with e | e | e | e <;> cases e <;> (show (_ : Nat) < _; decide)
        obtain ⟨i1, i2, i3, i4⟩ := inv0
        refine ⟨_, rfl, rfl, _, rfl, ?_⟩
        refine ⟨_, rfl, _, rfl, g, rfl, d60g.log, sz2, fun l1 nl1 => ?_⟩
        have v1 := Same.new (o := .lst [.str "degree", .str (itext g)]) nl1
        refine ⟨l0, l1, _, _, rfl, rfl, v1 _ _ hl0, upd_same, ?_, fun l2 nl2 => ?_⟩
        · rw [List.length_map, List.length_append]
          have := miW_len n d mi
          exact szle (by show 1 + (miW n d mi).length + 2 ≤ 100000; omega)
        · have v2 := v1.trans (Same.new (o := .lst (([itext ar] ++ miW n d mi).map V.str ++ [.str "degree", .str (itext g)])) nl2)
          refine ⟨l2, rfl, ⟨i1.same v2, v2 _ _ i2, i3.mono v2, nf0 (i1.same v1) (by rw [v1 _ _ i2]; exact fun z => nomatch z) nl2⟩, ?_⟩
          rw [upd_same, List.map_append (l₂ := deW (some g))]
          rfl
    clear inv0 hl0 l0 H1
    rintro σ' H1 ⟨l0, rfl, inv0, hl0⟩
    -- the swap's word
    refine ⟨fun σ' H' => ∃ l, σ' = [some (.ref a), some (.int ar), some (vS mi), some y, some (vI de), some (vS sw), some (.ref l)] ∧ (ExA a H H' ∧ H' a = some (.ins CU dx (unsF5 ⟨ar, mi, n, d, de, sw⟩ p)) ∧ RatAt C H' p n d ∧ H l = none) ∧ H' l = some (.lst ((wordsOf ⟨ar, mi, n, d, de, sw⟩).map V.str)), ?_, ?_⟩
    · cases sw with
      | none =>
        refine ⟨_, rfl, rfl, _, rfl, l0, rfl, inv0, ?_⟩
        rw [hl0]
        show some (HO.lst (([itext ar] ++ miW n d mi ++ deW de).map V.str)) = some (HO.lst (([itext ar] ++ miW n d mi ++ deW de ++ []).map V.str))
        rw [List.append_nil]
      | some x =>
        obtain ⟨i1, i2, ⟨dp, i3⟩, i4⟩ := inv0
        refine ⟨_, rfl, rfl, _, rfl, ?_⟩
        refine ⟨_, rfl, .inl ⟨rfl, _, SqL.of hl0⟩, _, rfl, l0, _, _, rfl, rfl, hl0, ?_, l0, rfl, ⟨?_, ?_, ⟨dp, ?_⟩, i4⟩, ?_⟩
        · rw [List.length_map, List.length_append, List.length_append]
          have h1 := miW_len n d mi
          have h2 := deW_len de
          exact Nat.lt_of_le_of_lt (show 1 + (miW n d mi).length + (deW de).length ≤ 5 by omega) (by decide)
        · intro b o ne e
          rw [upd_ne (fun z => by rw [z, i4] at e; cases e)]
          exact i1 b o ne e
        · rw [upd_ne (fun z => by rw [← z, i2] at hl0; cases hl0)]
          exact i2
        · rw [upd_ne (fun z => by rw [← z, i3] at hl0; cases hl0)]
          exact i3
        · rw [upd_same]
          show _ = some (HO.lst (([itext ar] ++ miW n d mi ++ deW de ++ swW (some x)).map V.str))
          rw [List.map_append (l₂ := swW (some x))]
          rfl
    clear inv0 hl0 l0 H1
    rintro σ' H1 ⟨l0, rfl, ⟨i1, i2, i3, i4⟩, hl0⟩
    -- the text
    have hsum : ((wordsOf ⟨ar, mi, n, d, de, sw⟩).map (·.length)).sum + (wordsOf ⟨ar, mi, n, d, de, sw⟩).length * (" " : Str).length ≤ 16777216 := by
      have h1 : (itext ar).length ≤ 61 := d60a.len
      have h2 : ((miW n d mi).map (·.length)).sum ≤ 305 := by
        rcases omi with rfl | ⟨_, rfl | rfl⟩
        · exact Nat.zero_le _
        · have := rat_len d60n d60d
          have l : ("even" : Str).length = 4 := by decide +kernel
          simp [miW, l]
          omega
        · have := rat_len d60n d60d
          have l : ("odd" : Str).length = 3 := by decide +kernel
          simp [miW, l]
          omega
      have h3 : ((deW de).map (·.length)).sum ≤ 100 := by
        rcases ode with rfl | ⟨_, rfl | rfl | rfl | rfl⟩ <;> decide +kernel
      have h4 : ((swW sw).map (·.length)).sum ≤ 100 := by
        rcases osw with rfl | ⟨_, rfl | rfl⟩ <;> decide +kernel
      have l1 : (" " : Str).length = 1 := by decide +kernel
      have c1 := miW_len n d mi
      have c2 := deW_len de
      have c3 := swW_len sw
      show (([itext ar] ++ miW n d mi ++ deW de ++ swW sw).map (·.length)).sum + ([itext ar] ++ miW n d mi ++ deW de ++ swW sw).length * _ ≤ _
      rw [List.map_append, List.map_append, List.map_append, List.sum_append, List.sum_append, List.sum_append, List.length_append, List.length_append, List.length_append, l1]
      simp
      omega
    refine ⟨⟨_, rfl⟩, _, rfl, _, l0, _, rfl, rfl, .inl (SqL.of hl0), hsum, _, rfl, a, CU, dx, _, rfl, i2, T.ucl, T.uT, (by show 5 < 1000; decide), ?_⟩
    show Q .non (upd H1 a (.ins CU dx (putF "text" (.str (factText ⟨ar, mi, n, d, de, sw⟩)) (unsF5 ⟨ar, mi, n, d, de, sw⟩ p))))
    rw [put_6]
    refine q p _ i1.upd upd_same ?_
    obtain ⟨dp, i3⟩ := i3
    refine ⟨dp, ?_⟩
    rw [upd_ne (fun e => by rw [e, i2] at i3; cases i3)]
    exact i3
end
end Mine
namespace Mine
open PySem PySem.Spec PyProof.Rows L2
def letters : Str := "abcdefghijklmnopqrstuvwxyz"
def wordsR : List PyData := [.str "fn", .str "let", .str "slope"]
def isNameS (x : Str) : Bool := (decide ((1 : Int) ≤ (x.length : Int)) && decide ((x.length : Int) ≤ 6)) && (!(wordsR.any fun z => PyData.eqv z (.str x)) && x.cps.toList.all fun c => decide (c ∈ letters.cps.toList))
def isNameD : PyData → Bool
  | .str x => isNameS x
  | _ => false
def spName (K : PySem.W.Frag) : Sp := fun vs H Q _ => ∃ (v : V) (d : PyData), vs = [v] ∧ Dp K H v d ∧ SeqAt.shaped d = true ∧ (∀ x, d = .str x → x.length ≤ 1000) ∧ ∀ H', Same H H' → Q (.bl (isNameD d)) H'
structure TxtN (K : PySem.W.Frag) (mg : Str → Option Value) (aW : Addr) : Prop where
  isinstance : mg "isinstance" = none
  str : mg "str" = none
  len : mg "len" = none
  all : mg "all" = none
  g_WORDS : mg "WORDS" = some (.ref aW)
  w : ∃ (o : Obj) (its : Array Value) (n : Nat), K.lookup aW = some o ∧ o.cls = .type "tuple" ∧ o.data = .seq its n ∧ its.size ≤ sizeLine ∧ Vals [.str "fn", .str "let", .str "slope"] its.toList
/-- two instances alike -/
def spUnsEq (K : PySem.W.Frag) (C CR : Addr) : Sp := fun vs H Q _ => ∃ (a : Addr) (f : Fact) (y : V), vs = [.ref a, y] ∧ UnsAt C CR H a f ∧
  ((∃ (a' : Addr) (f' : Fact), y = .ref a' ∧ UnsAt C CR H a' f' ∧ Q (.bl (decide (factText f = factText f'))) H) ∨ (∃ t, TyX K H y t ∧ PySem.W.kitOne K t (.ref C) = some false ∧ Q (.bl false) H))
def spUnsStr (C CR : Addr) : Sp := fun vs H Q _ => ∃ (a : Addr) (f : Fact), vs = [.ref a] ∧ UnsAt C CR H a f ∧ Q (.str (factText f)) H
def spUnsRepr (C CR : Addr) : Sp := fun vs H Q _ => ∃ (a : Addr) (f : Fact), vs = [.ref a] ∧ UnsAt C CR H a f ∧ (factText f).length ≤ 1000 ∧ Q (.str (Str.empty ++ "Unseen(" ++ factText f ++ ")")) H
def freeOf (f : Fact) : Bool := f.mi.isNone && (f.de.isNone && f.sw.isNone)
def spFree (C CR : Addr) : Sp := fun vs H Q _ => ∃ (a : Addr) (f : Fact), vs = [.ref a] ∧ UnsAt C CR H a f ∧ Q (.bl (freeOf f)) H
section
variable {P : Program} {w : World} {K : PySem.W.Frag} {mg : Str → Option Value} {base : Heap} {CU C CE fE fW fN fO fS CF fF : Addr} {tk : Tok}
theorem ok_uneq {f : Addr} {fd : FuncData} (F : Fun K "__eq__" "Unseen.__eq__" s_Unseen_D_eqD_ f fd) (T : TxtU K mg CU C CE fE fW fN fO fS CF fF tk) (tyu : ∀ (H : Hp) (a dx : Addr) (fs : List (Str × V)), H a = some (.ins CU dx fs) → TyX K H (.ref a) (.ref CU)) : FnOk P w K mg base CX0 1 f fd ["self", "other"] (spUnsEq K CU C) := by
  refine F.ok sc_Unseen_D_eqD_ (fun vs H Q E h => ?_) (fun cdv A outer s H vs Q E hr h => ?_)
  · obtain ⟨_, _, _, rfl, _⟩ := h
    rfl
  · obtain ⟨a, f, y, rfl, ⟨dx, p, ha, _⟩, h⟩ := h
    refine ⟨_, (pss_one (ps_ret (pe_and (pe_callB (id := "isinstance") call_isi (by rfl) T.isinstance (by decide +kernel) (pa_cons (pv 1) (pa_cons (pe_glob (v := .ref _) rfl T.g_Unseen rfl) pa_nil))) (pe_one (pe_cmpR op_eq (pe_fld (pv 0) rfl) (pe_fld (pv 1) rfl) (nomark _)))))), ?_⟩
    rcases h with ⟨a', f', rfl, ⟨dy, p', hb, _⟩, q⟩ | ⟨t, ty, kt, q⟩
    · refine ⟨_, rfl, _, _, _, _, _, rfl, .own CU, tyu _ _ _ _ hb, kit_self, true, rfl, ?_⟩
      refine ⟨_, rfl, a, CU, dx, _, _, rfl, ha, T.ucl, T.uT, unsF_text _ _, _, rfl, a', CU, dy, _, _, rfl, hb, T.ucl, T.uT, unsF_text _ _, rfl, ?_⟩
      have e : decide (V.str (factText f) = V.str (factText f')) = decide (factText f = factText f') := by
        by_cases c : factText f = factText f'
        · rw [decide_eq_true c, c]
          exact decide_eq_true rfl
        · rw [decide_eq_false c]
          exact decide_eq_false fun z => c (V.str.inj z)
      rw [e]
      exact q
    · exact ⟨_, rfl, _, _, _, _, _, rfl, .own CU, ty, kt, false, rfl, q⟩
theorem ok_unstr {f : Addr} {fd : FuncData} (F : Fun K "__str__" "Unseen.__str__" s_Unseen_D_strD_ f fd) (T : TxtU K mg CU C CE fE fW fN fO fS CF fF tk) : FnOk P w K mg base CX0 1 f fd ["self"] (spUnsStr CU C) := by
  refine F.ok sc_Unseen_D_strD_ (fun vs H Q E h => ?_) (fun cdv A outer s H vs Q E hr h => ?_)
  · obtain ⟨_, _, rfl, _⟩ := h
    rfl
  · obtain ⟨a, f, rfl, ⟨dx, p, ha, _⟩, q⟩ := h
    refine ⟨_, (pss_one (ps_ret (pe_callTy SkE.call_str_str (by rfl) T.str (by decide +kernel) (pa_cons (pe_fld (pv 0) rfl) pa_nil)))), ?_⟩
    exact ⟨_, rfl, a, CU, dx, _, _, rfl, ha, T.ucl, T.uT, unsF_text _ _, _, rfl, q⟩
theorem ok_unrepr {f fT : Addr} {fd fdT : FuncData} (F : Fun K "__repr__" "Unseen.__repr__" s_Unseen_D_reprD_ f fd) (T2 : RuleS K CU fT) (G_str : FnOk P w K mg base CX0 1 fT fdT ["self"] (spUnsStr CU C)) (b_str : Binds K fdT ["self"] []) : FnOk P w K mg base CX0 3 f fd ["self"] (spUnsRepr CU C) := by
  refine F.ok sc_Unseen_D_reprD_ (fun vs H Q E h => ?_) (fun cdv A outer s H vs Q E r_str h => ?_)
  · obtain ⟨_, _, rfl, _⟩ := h
    rfl
  · obtain ⟨a, f, rfl, ⟨dx, p, ha, hr'⟩, hl, q⟩ := h
    refine ⟨_, (pss_one (ps_ret (pe_joined (PJ.cons pe_str (PJ.cons (pe_fmtO G_str T2.str T2.fmt r_str b_str (pv 0)) (PJ.cons pe_str PJ.nil)))))), ?_⟩
    have l0 : (Str.empty : Str).length = 0 := rfl
    have l1 : ("Unseen(" : Str).length = 7 := by decide +kernel
    have l2 : (")" : Str).length = 1 := by decide +kernel
    refine ⟨"Unseen(", rfl, szle (by rw [Str.length_append]; omega), _, rfl, a, dx, _, rfl, ha, a, f, rfl, ⟨dx, p, ha, hr'⟩, _, rfl, _, rfl, szle (by rw [Str.length_append, Str.length_append]; omega), ")", rfl, szle (by rw [Str.length_append, Str.length_append, Str.length_append]; omega), q⟩
theorem ok_free {f : Addr} {fd : FuncData} (F : Fun K "is_free" "Unseen.is_free" s_Unseen_is_free f fd) (T : TxtU K mg CU C CE fE fW fN fO fS CF fF tk) : FnOk P w K mg base CX0 1 f fd ["self"] (spFree CU C) := by
  refine F.ok sc_Unseen_is_free (fun vs H Q E h => ?_) (fun cdv A outer s H vs Q E hr h => ?_)
  · obtain ⟨_, _, rfl, _⟩ := h
    rfl
  · obtain ⟨a, f, rfl, ⟨dx, p, ha, _⟩, q⟩ := h
    refine ⟨_, (pss_one (ps_ret (pe_and (pe_cmpR op_isN (pe_fld (pv 0) rfl) pe_non (nomark _)) (pe_and (pe_cmpR op_isN (pe_fld (pv 0) rfl) pe_non (nomark _)) (pe_one (pe_cmpR op_isN (pe_fld (pv 0) rfl) pe_non (nomark _))))))), ?_⟩
    obtain ⟨ar, mi, n, d, de, sw⟩ := f
    refine ⟨_, rfl, a, CU, dx, _, _, rfl, ha, T.ucl, T.uM, unsF_mirror _ _, rfl, _, rfl, ?_⟩
    cases mi with
    | some m => exact q
    | none =>
      refine ⟨_, rfl, a, CU, dx, _, _, rfl, ha, T.ucl, T.uD, unsF_degree _ _, rfl, _, rfl, ?_⟩
      cases de with
      | some g => exact q
      | none =>
        refine ⟨_, rfl, a, CU, dx, _, _, rfl, ha, T.ucl, T.uS, unsF_swap _ _, rfl, ?_⟩
        cases sw with
        | some x => exact q
        | none => exact q
theorem ok_name {f aW : Addr} {fd : FuncData} (F : Fun K "is_name" "is_name" s_is_name f fd) (T : TxtN K mg aW) : FnOk P w K mg base CX0 1 f fd ["value"] (spName K) := by
  refine F.ok sc_is_name (fun vs H Q E h => ?_) (fun cdv A outer s H vs Q E hr h => ?_)
  · obtain ⟨_, _, rfl, _⟩ := h
    rfl
  · obtain ⟨v, d, rfl, hd, sd, hl, q⟩ := h
    refine ⟨_, (pss_cons (ps_if (PW.pt (pw_or (pt_not (pt_val (pe_callB (id := "isinstance") call_isi (by rfl) T.isinstance (by decide +kernel) (pa_cons (pv 0) (pa_cons (pe_bltn (v := .ty "str") (by rfl) T.str (by decide +kernel) rfl) pa_nil))))) (pw_or1 (pt_not (pt_chain op_le op_le pe_int (pe_callB call_len_str (by rfl) T.len PySem.boot_len (pa_cons (pv 0) pa_nil)) pe_int)))))
 (pss_one (ps_ret pe_bl))
 pss_nil)
 (pss_one (ps_ret (pe_and (pe_cmpR (op_notInT (hu65 hr)) (pv 0) (pe_glob (v := .ref _) rfl T.g_WORDS rfl) (by rfl)) (pe_one (pe_callB (cr_all rfl) (by rfl) T.all (by decide +kernel) (pa_cons (pe_lc (own := [("sign", 1)]) (g := (gName 1)) (tt := tYes) rfl sc_is_name.nd (pi_str (pv 0)) (blkOk_by (own := [("sign", 1)]) (N := ["value", "sign"]) (sc := defScope s_is_name) (by decide +kernel)) (fun _ _ _ _ _ => (pg_name (i := 1) sc_is_name.nd rfl (Or.inl rfl))) (fun _ _ _ _ _ => pts_nil) (fun _ _ _ _ _ => (pe_cmpR op_in_sign (pv 1) pe_str (by rfl)))) pa_nil))))))), ?_⟩
    have q0 := q H (Same.refl H)
    refine ⟨_, rfl, _, _, _, _, _, rfl, .ty _, dp_ty hd, kit_str d, _, rfl, ?_⟩
    cases d with
    | none => exact q0
    | bool _ => exact q0
    | int _ => exact q0
    | list _ => exact q0
    | tuple _ => exact q0
    | dict _ => cases hd
    | str x =>
      cases hd
      have hx := hl x rfl
      have q : ∀ H', Same H H' → Q (.bl (isNameS x)) H' := q
      unfold isNameS at q
      refine ⟨_, rfl, x, rfl, szle (by omega), _, _, rfl, rfl, _, rfl, ?_⟩
      by_cases c1 : (1 : Int) ≤ (x.length : Int)
      · refine itT (decide_eq_true c1) ?_
        rw [decide_eq_true c1, Bool.true_and] at q
        refine ⟨_, _, rfl, rfl, _, rfl, ?_⟩
        by_cases c2 : (x.length : Int) ≤ 6
        · refine itF (by rw [decide_eq_true c2]; rfl) ?_
          rw [decide_eq_true c2, Bool.true_and] at q
          refine ⟨_, rfl, .str x, wordsR, .str x, .tup (.inr T.w) (.cons (.str _) (.cons (.str _) (.cons (.str _) .nil))), sd, by decide +kernel, _, rfl, ?_⟩
          cases hw : (wordsR.any fun z => PyData.eqv z (.str x)) with
          | true =>
            rw [hw] at q
            exact q H (Same.refl H)
          | false =>
            rw [hw] at q
            have q : ∀ H', Same H H' → Q (.bl (x.cps.toList.all fun c => decide (c ∈ letters.cps.toList))) H' := q
            refine ⟨_, rfl, x, rfl, fun D nD => ?_⟩
            refine lc_it (walk_str (z := x)) (fun i H' => Same H H' ∧ H' D = some (.lst (((x.cps.toList.take i).map fun c => decide (c ∈ letters.cps.toList)).map V.bl))) ⟨Same.new nD, upd_same⟩ (fun i H' _ _ => trivial) ?_ ?_
            · rintro i v H1 H2 hi ⟨s1, hD⟩ ⟨rfl, c, hc, rfl⟩
              refine ⟨rfl, _, rfl, c, letters, rfl, rfl, _, hD, ?_, ?_, ?_⟩
              · rw [List.length_map, List.length_map, List.length_take]
                exact small1000 (Nat.le_trans (Nat.min_le_right _ _) (by rw [Array.length_toList]; exact hx))
              · intro b o e
                rw [upd_ne (ne_of_none e nD)]
                exact s1 _ _ e
              · have hc' : x.cps.toList[i]? = some c := by rw [Array.getElem?_toList]; exact hc
                rw [upd_same, List.take_succ, hc', List.map_append, List.map_append]
                rfl
            · rintro H1 ⟨s1, hD⟩
              refine ⟨D, _, rfl, SqL.of hD, ?_⟩
              have e : ((x.cps.toList.take x.cps.size).map fun c => decide (c ∈ letters.cps.toList)).all id = x.cps.toList.all fun c => decide (c ∈ letters.cps.toList) := by
                rw [← Array.length_toList, List.take_length, List.all_map]
                rfl
              rw [e]
              exact q H1 s1
        · refine itT (by rw [decide_eq_false c2]; rfl) ?_
          rw [decide_eq_false c2] at q
          exact q H (Same.refl H)
      · refine itF (decide_eq_false c1) ?_
        rw [decide_eq_false c1] at q
        exact ⟨_, rfl, q H (Same.refl H)⟩
end
end Mine
namespace Mine
open PySem PySem.Spec PyProof.Rows L2
structure TxtQ (K : PySem.W.Frag) (mg : Str → Option Value) (C CE fE fW fN fO fP fLo : Addr) : Prop extends RatC K mg C CE fE fW fN fO where
  g_pull : mg "_law_pull" = some (.ref fP)
  k_pull : PySem.W.keepIn K (.ref fP) = true
  g_low : mg "_law_low" = some (.ref fLo)
  k_low : PySem.W.keepIn K (.ref fLo) = true
/-- a new pair of ints -/
def NewPair (H : Hp) (Q : VK) (n d : Int) : Prop := ∀ (p : Addr) (H' : Hp), H p = none → Same H H' → H' p = some (.tup [.int n, .int d]) → Q (.ref p) H'
def spLow : Sp := fun vs H Q _ => ∃ n d : Int, vs = [.int n, .int d] ∧ d ≠ 0 ∧ Bt 4000 n ∧ Bt 4000 d ∧ NewPair H Q (low n d).1 (low n d).2
def spOn2 (K : PySem.W.Frag) (f : Int → Int → Int → Int → Int × Int) : Sp := fun vs H Q _ => ∃ (t u : Addr) (n d m e : Int), vs = [.ref t, .ref u] ∧ SqT K H t [.int n, .int d] ∧ SqT K H u [.int m, .int e] ∧ d ≠ 0 ∧ e ≠ 0 ∧ Bt 1000 n ∧ Bt 1000 d ∧ Bt 1000 m ∧ Bt 1000 e ∧
  NewPair H Q (low (f n d m e).1 (f n d m e).2).1 (low (f n d m e).1 (f n d m e).2).2
def spPair (C : Addr) : Sp := fun vs H Q _ => ∃ (a : Addr) (n d : Int), vs = [.ref a] ∧ RatAt C H a n d ∧ NewPair H Q n d
def spLRatio (K : PySem.W.Frag) (C : Addr) : Sp := fun vs H Q _ => ∃ (t : Addr) (n d : Int), vs = [.ref t] ∧ SqT K H t [.int n, .int d] ∧ d ≠ 0 ∧ Bt 8000 n ∧ Bt 8000 d ∧ NewRat C H Q (low n d).1 (low n d).2
def spSmall : Sp := fun vs H Q _ => ∃ b : Addr, vs = [.ref b] ∧ Bag H b ∧ ∀ (z : Int) (o : HO), Bt 20 z → Bag (upd H b o) b → Q (.int z) (upd H b o)
theorem low_sign {n d : Int} (h : d ≠ 0) : ((if d < 0 then (-1 : Int) else 1) * n).fdiv ((Nat.gcd n.natAbs d.natAbs : Nat) : Int) = (low n d).1 ∧ ((if d < 0 then (-1 : Int) else 1) * d).fdiv ((Nat.gcd n.natAbs d.natAbs : Nat) : Int) = (low n d).2 := by
  have d1 : ((Nat.gcd n.natAbs d.natAbs : Nat) : Int) ∣ n := by rw [← Int.natAbs_dvd_natAbs, Int.natAbs_natCast]; exact Nat.gcd_dvd_left _ _
  have d2 : ((Nat.gcd n.natAbs d.natAbs : Nat) : Int) ∣ d := by rw [← Int.natAbs_dvd_natAbs, Int.natAbs_natCast]; exact Nat.gcd_dvd_right _ _
  unfold low sgcd
  split
  · rw [Int.neg_mul, Int.neg_mul, Int.one_mul, Int.one_mul, Int.fdiv_eq_ediv_of_dvd (Int.dvd_neg.mpr d1), Int.fdiv_eq_ediv_of_dvd (Int.dvd_neg.mpr d2), Int.fdiv_eq_ediv_of_dvd (Int.neg_dvd.mpr d1), Int.fdiv_eq_ediv_of_dvd (Int.neg_dvd.mpr d2), Int.ediv_neg, Int.ediv_neg, Int.neg_ediv_of_dvd d1, Int.neg_ediv_of_dvd d2]
    exact ⟨rfl, rfl⟩
  · rw [Int.one_mul, Int.one_mul]
    exact ⟨rfl, rfl⟩
theorem abs_nat (z : Int) : (if z < 0 then -z else z) = ((z.natAbs : Nat) : Int) := by split <;> omega
section
variable {P : Program} {w : World} {K : PySem.W.Frag} {mg : Str → Option Value} {base : Heap} {C CE fE fW fN fO fP fLo : Addr}
theorem ok_low {fd : FuncData} (F : Fun K "_law_low" "_law_low" s_L_low fLo fd) (T : TxtQ K mg C CE fE fW fN fO fP fLo) : FnOk P w K mg base CX0 1 fLo fd ["_law_top", "_law_bottom"] spLow := by
  refine F.ok sc_L_low (fun vs H Q E h => ?_) (fun cdv A outer s H vs Q E hr h => ?_)
  · obtain ⟨_, _, rfl, _⟩ := h
    rfl
  · obtain ⟨n, d, rfl, hd, bn, bd, q⟩ := h
    refine ⟨_, (pss_cons (ps_par (i := 2) (j := 3) (by rfl) sc_L_low.nd rfl rfl (by decide) rfl rfl (pa_cons (pe_callB call_abs (by rfl) T.abs (by decide +kernel) (pa_cons (pv 0) pa_nil)) (pa_cons (pe_callB call_abs (by rfl) T.abs (by decide +kernel) (pa_cons (pv 1) pa_nil)) pa_nil)) (by rfl))
 (Evl.pss_cut (ps_while PassesOwn.never (pt_cmpR op_ne (pv 3) pe_int (nomark _))
 (pss_one (ps_par (i := 2) (j := 3) (by rfl) sc_L_low.nd rfl rfl (by decide) rfl rfl (pa_cons (pv 3) (pa_cons (pe_op op_mod (pe_callTy call_int1 (by rfl) T.int (by decide +kernel) (pa_cons (pv 2) pa_nil)) (pv 3)) pa_nil)) (by rfl))))
 (pss_cons (ps_set (i := 4) sc_L_low.nd rfl (Or.inl rfl) (pe_ifExp (pt_cmpR op_lt (pv 1) pe_int (nomark _)) (pe_un un_neg pe_int) pe_int))
 (pss_one (ps_ret (pe_tup (pa_cons (pe_op op_fdivG (pe_op op_mulW (pv 4) (pv 0)) (pv 2)) (pa_cons (pe_op op_fdivG (pe_op op_mulW (pv 4) (pv 1)) (pv 2)) pa_nil)))))))), ?_⟩
    refine ⟨_, rfl, _, rfl, _, rfl, _, rfl, _, _, rfl, ?_⟩
    rw [abs_nat, abs_nat]
    refine ⟨fun σ' H' => σ' = [some (.int n), some (.int d), some (.int ((Nat.gcd n.natAbs d.natAbs : Nat) : Int)), some (.int 0), none] ∧ H' = H, ?_, ?_⟩
    · refine ⟨fun m σ' H' => ∃ x y : Nat, σ' = [some (.int n), some (.int d), some (.int x), some (.int y), none] ∧ H' = H ∧ m = y ∧ Nat.gcd x y = Nat.gcd n.natAbs d.natAbs, ⟨_, n.natAbs, d.natAbs, rfl, rfl, rfl, rfl⟩, ?_⟩
      rintro m σ' H' ⟨x, y, rfl, rfl, rfl, hg⟩
      refine ⟨_, rfl, rfl, _, rfl, ?_⟩
      by_cases y0 : m = 0
      · subst y0
        rw [Nat.gcd_zero_right] at hg
        subst hg
        exact ⟨rfl, rfl⟩
      · have ne : (!decide (V.int (m : Int) = V.int 0)) = true := by
          rw [decide_eq_false fun z => y0 (by have := V.int.inj z; omega)]
          rfl
        refine itT ne ?_
        refine ⟨fun σ' H'' => ∃ x' y' : Nat, σ' = [some (.int n), some (.int d), some (.int x'), some (.int y'), none] ∧ H'' = H' ∧ y' < m ∧ Nat.gcd x' y' = Nat.gcd n.natAbs d.natAbs, ?_, ?_⟩
        · rintro σ' H'' ⟨x', y', rfl, rfl, hl, hg'⟩
          exact ⟨y', hl, x', y', rfl, rfl, rfl, hg'⟩
        · refine ⟨_, rfl, _, rfl, .inl ⟨_, rfl, _, rfl, _, _, rfl, rfl, (by show (0 : Int) < (m : Int); omega), _, _, rfl, m, x % m, rfl, rfl, Nat.mod_lt _ (by omega), ?_⟩⟩
          rw [Nat.gcd_comm, ← Nat.gcd_rec, Nat.gcd_comm]
          exact hg
    · rintro σ' H' ⟨rfl, rfl⟩
      have g0 : 0 < Nat.gcd n.natAbs d.natAbs := Nat.gcd_pos_of_pos_right _ (by omega)
      have gb : Bt 4000 ((Nat.gcd n.natAbs d.natAbs : Nat) : Int) := by
        show (((Nat.gcd n.natAbs d.natAbs : Nat) : Int)).natAbs < _
        rw [Int.natAbs_natCast]
        exact Nat.lt_of_le_of_lt (Nat.gcd_le_right _ (by omega)) bd
      have cd : ∀ i, CDivG i ((Nat.gcd n.natAbs d.natAbs : Nat) : Int) := fun i => ⟨by omega, Nat.lt_of_lt_of_le (PySem.Flt.log2_lt_of (by decide) gb) (by decide)⟩
      obtain ⟨e1, e2⟩ := low_sign (n := n) hd
      refine ⟨_, rfl, _, _, rfl, rfl, _, rfl, ?_⟩
      by_cases dn : d < 0
      · refine itT (decide_eq_true dn) ?_
        rw [if_pos dn] at e1 e2
        refine ⟨_, rfl, _, rfl, _, rfl, _, _, rfl, rfl, (Bt.one (k := 1) (by decide)).neg.cm bn (by decide) (by decide) (by decide), _, rfl, _, _, rfl, rfl, cd _, ?_⟩
        refine ⟨_, rfl, _, rfl, _, _, rfl, rfl, (Bt.one (k := 1) (by decide)).neg.cm bd (by decide) (by decide) (by decide), _, rfl, _, _, rfl, rfl, cd _, sz2, fun p np => ?_⟩
        rw [← e1, ← e2] at q
        exact q p _ np (Same.new np) upd_same
      · refine itF (decide_eq_false dn) ?_
        rw [if_neg dn] at e1 e2
        refine ⟨_, rfl, _, rfl, _, _, rfl, rfl, (Bt.one (k := 1) (by decide)).cm bn (by decide) (by decide) (by decide), _, rfl, _, _, rfl, rfl, cd _, ?_⟩
        refine ⟨_, rfl, _, rfl, _, _, rfl, rfl, (Bt.one (k := 1) (by decide)).cm bd (by decide) (by decide) (by decide), _, rfl, _, _, rfl, rfl, cd _, sz2, fun p np => ?_⟩
        rw [← e1, ← e2] at q
        exact q p _ np (Same.new np) upd_same
theorem ok_lratio {f fR : Addr} {fd fdR : FuncData} (F : Fun K "_law_ratio" "_law_ratio" s_L_ratio f fd) (T : RatC K mg C CE fE fW fN fO)
    (M_Ratio : Mk K C fR) (G_Ratio : FnOk P w K mg base (L2.CX P w) 3 fR fdR ["self", "top", "bottom"] (spRat K C CE)) (b2_Ratio : Binds K fdR ["self", "top", "bottom"] []) : FnOk P w K mg base CX0 5 f fd ["_law_pair_here"] (spLRatio K C) := by
  refine F.ok sc_L_ratio (fun vs H Q E h => ?_) (fun cdv A outer s H vs Q E r_Ratio h => ?_)
  · obtain ⟨_, _, _, rfl, _⟩ := h
    rfl
  · obtain ⟨t, n, d, rfl, ht, d0, b1, b2, q⟩ := h
    refine ⟨_, (pss_one (ps_ret (pe_make M_Ratio G_Ratio r_Ratio rfl T.g_Ratio b2_Ratio .nil passL (pa_cons (pe_ix ix_tup (pv 0) pe_int (fun _ _ => rfl)) (pa_cons (pe_ix ix_tup (pv 0) pe_int (fun _ _ => rfl)) pa_nil))))), ?_⟩
    refine ⟨_, rfl, t, _, 0, _, rfl, rfl, ht, rfl, _, rfl, t, _, 1, _, rfl, rfl, ht, rfl, fun x dx nx nd _ => ?_⟩
    exact mk_rat d0 b1 b2 q x dx nx nd
theorem ok_pair_ {f : Addr} {fd : FuncData} (F : Fun K "_law_pair" "_law_pair" s_L_pair f fd) (T : RatC K mg C CE fE fW fN fO) : FnOk P w K mg base CX0 1 f fd ["_law_found"] (spPair C) := by
  refine F.ok sc_L_pair (fun vs H Q E h => ?_) (fun cdv A outer s H vs Q E hr h => ?_)
  · obtain ⟨_, _, _, rfl, _⟩ := h
    rfl
  · obtain ⟨a, n, d, rfl, ⟨dx, ha⟩, q⟩ := h
    refine ⟨_, (pss_cons (ps_if (pt_not (pt_val (pe_callB (id := "isinstance") call_isi (by rfl) T.isinstance (by decide +kernel) (pa_cons (pv 0) (pa_cons (pe_glob (v := .ref _) rfl T.g_Ratio rfl) pa_nil)))))
 (pss_one (ps_ret pe_non))
 pss_nil)
 (pss_cons (ps_setLc (i := 1) (own := [("_law_part", 2)]) (g := (gName 2)) (tt := tYes) (te := tAndV (tCB (rIsi K) (tCons (tVar 2) (tCons (tC (.ty "int")) tNil))) (tNotV (tCB (rIsi K) (tCons (tVar 2) (tCons (tC (.ty "bool")) tNil))))) rfl sc_L_pair.nd rfl rfl (by rfl) (pi_list (pe_lst (pa_cons (pe_fld (pv 0) rfl) (pa_cons (pe_fld (pv 0) rfl) pa_nil)))) (blkOk_by (own := [("_law_part", 2)]) (N := ["_law_found", "_law_whole", "_law_part"]) (sc := defScope s_L_pair) (by decide +kernel)) (fun _ _ _ _ _ => (pg_name (i := 2) sc_L_pair.nd rfl (Or.inl rfl))) (fun _ _ _ _ _ => pts_nil) (fun _ _ _ _ _ => (pe_and (pe_callB (id := "isinstance") call_isi (by rfl) T.isinstance (by decide +kernel) (pa_cons (pv 2) (pa_cons (pe_bltn (v := .ty "int") (by rfl) T.int (by decide +kernel) rfl) pa_nil))) (pe_one (pe_not (pe_callB (id := "isinstance") call_isi (by rfl) T.isinstance (by decide +kernel) (pa_cons (pv 2) (pa_cons (pe_bltn (v := .ty "bool") (by rfl) T.bool (by decide +kernel) rfl) pa_nil))))))))
 (pss_one (ps_ret (pe_ifExp (pt_cmpR (op_eqD (hu64 hr)) (pv 1) (pe_lst (pa_cons pe_bl (pa_cons pe_bl pa_nil))) (nomark _)) (pe_tup (pa_cons (pe_fld (pv 0) rfl) (pa_cons (pe_fld (pv 0) rfl) pa_nil))) pe_non))))), ?_⟩
    refine ⟨_, rfl, _, _, _, _, _, rfl, .own C, T.tyi _ _ _ _ ha, kit_self, true, rfl, ?_⟩
    refine ⟨_, rfl, a, C, dx, _, _, rfl, ha, T.cl, T.nT, ratF_top _ _, _, rfl, a, C, dx, _, _, rfl, ha, T.cl, T.nB, ratF_bottom _ _, sz2, fun l nl => ⟨l, rfl, ⟨_, SqL.of upd_same⟩, fun D nD => ?_⟩⟩
    have s1 : Same H (upd H l (.lst [.int n, .int d])) := Same.new nl
    refine lc_list (K := K) (xs := [.int n, .int d]) (fun i H' => Same (upd H l (.lst [.int n, .int d])) H' ∧ H' D = some (.lst ((List.replicate i true).map V.bl))) ⟨Same.new nD, upd_same⟩ (fun i H' _ z => SqL.of (z.1 _ _ upd_same)) ?_ ?_
    · rintro i v H2 hv ⟨s2, hD⟩
      have hi : i < 2 := (List.getElem?_eq_some_iff.mp hv).1
      have ev : ∃ z, v = .int z := by
        match i, hi, hv with
        | 0, _, hv => cases hv; exact ⟨_, rfl⟩
        | 1, _, hv => cases hv; exact ⟨_, rfl⟩
      obtain ⟨z, rfl⟩ := ev
      refine ⟨rfl, _, rfl, _, _, _, _, _, rfl, .ty _, dp_ty (.int z), kit_int (.int z), true, rfl, ?_⟩
      refine ⟨_, rfl, _, _, _, _, _, rfl, .ty _, dp_ty (.int z), kit_bool (.int z), _, rfl, _, hD, ?_, fun c o e => ?_, ?_⟩
      · rw [List.length_map, List.length_replicate]
        exact small1000 (by omega)
      · rw [upd_ne (ne_of_none e nD)]
        exact s2 _ _ e
      · rw [upd_same, List.replicate_succ', List.map_append]
        rfl
    · rintro H2 ⟨s2, hD⟩
      refine ⟨_, rfl, sz2, fun m nm => ⟨.list [.bool true, .bool true], .list [.bool true, .bool true], .lst (SqL.of ((Same.new nm) _ _ hD)) (.cons (.bl _) (.cons (.bl _) .nil)), .lst (SqL.of upd_same) (.cons (.bl _) (.cons (.bl _) .nil)), by decide +kernel, by decide +kernel, ?_⟩⟩
      have s3 := s1.trans (s2.trans (Same.new (o := .lst [.bl true, .bl true]) nm))
      have ha3 := s3 _ _ ha
      refine ⟨_, rfl, ?_⟩
      refine itT (by decide +kernel) ?_
      exact ⟨_, rfl, a, C, dx, _, _, rfl, ha3, T.cl, T.nT, ratF_top _ _, _, rfl, a, C, dx, _, _, rfl, ha3, T.cl, T.nB, ratF_bottom _ _, sz2, fun t nt => q t _ (s3.free nt) (s3.trans (Same.new nt)) upd_same⟩
end
end Mine
namespace Mine
open PySem PySem.Spec PyProof.Rows L2 TL
structure TxtM (K : PySem.W.Frag) (mg : Str → Option Value) (fP : Addr) : Prop where
  range : mg "range" = none
  g_pull : mg "_law_pull" = some (.ref fP)
  k_pull : PySem.W.keepIn K (.ref fP) = true
def LetS (x : Str) (n : Nat) : Prop := x.length = n ∧ ∀ c ∈ tl x, c ∈ tl letters
theorem at_letter : ∀ e : Nat, e < 26 → (tl letters)[e]? ≠ none := by decide +kernel
theorem letter_at {e : Int} (h0 : 0 ≤ e) (h1 : e < 26) : ∃ c, atI (tl letters) e = some c ∧ c ∈ tl letters := by
  have h := at_letter e.toNat (by omega)
  cases hc : (tl letters)[e.toNat]? with
  | none => exact absurd hc h
  | some c =>
    refine ⟨c, ?_, List.mem_of_getElem? hc⟩
    have l26 : (tl letters).length = 26 := by decide +kernel
    unfold atI ixN
    rw [if_pos h0, if_pos (by rw [l26]; omega)]
    exact hc
theorem LetS.one {c : Nat} (h : c ∈ tl letters) : LetS ⟨#[c]⟩ 1 := ⟨rfl, fun d hd => by
  have : d = c := by simpa [tl] using hd
  rw [this]
  exact h⟩
theorem LetS.snoc {x : Str} {n c : Nat} (h : LetS x n) (hc : c ∈ tl letters) : LetS (x ++ ⟨#[c]⟩) (n + 1) := ⟨by rw [Str.length_append, h.1]; rfl, fun d hd => by
  rw [tl_append] at hd
  rcases List.mem_append.mp hd with z | z
  · exact h.2 d z
  · exact (LetS.one hc).2 d z⟩
theorem letter_small : ∀ c ∈ tl letters, c < 0x110000 := by decide +kernel
theorem LetS.shaped {x : Str} {n : Nat} (h : LetS x n) : SeqAt.shaped (.str x) = true := by
  unfold SeqAt.shaped
  have e : PyData.strOk x = true := by
    unfold PyData.strOk
    rw [← Array.all_toList]
    exact List.all_eq_true.mpr fun c hc => decide_eq_true (letter_small c (h.2 c hc))
  rw [show (PyData.str x).canLay0 = PyData.strOk x from rfl, e]
  rfl
theorem LetS.name {x : Str} {n : Nat} (h : LetS x n) (h1 : 1 ≤ n) (h6 : n ≤ 6) (hw : (wordsR.any fun z => PyData.eqv z (.str x)) = false) : isNameS x = true := by
  unfold isNameS
  rw [hw, decide_eq_true (by have := h.1; omega), decide_eq_true (by have := h.1; omega)]
  exact List.all_eq_true.mpr fun c hc => decide_eq_true (h.2 c hc)
theorem word_of {x : Str} (h : (wordsR.any fun z => PyData.eqv z (.str x)) = true) : x = "fn" ∨ x = "let" ∨ x = "slope" := by
  have e : ((("fn" : Str) == x) || ((("let" : Str) == x) || ((("slope" : Str) == x) || false))) = true := h
  simp only [Bool.or_false, Bool.or_eq_true, beq_iff_eq] at e
  rcases e with e | e | e
  · exact .inl e.symm
  · exact .inr (.inl e.symm)
  · exact .inr (.inr e.symm)
def spLName : Sp := fun vs H Q _ => ∃ b : Addr, vs = [.ref b] ∧ Bag H b ∧ ∀ (x : Str) (H' : Hp), isNameS x = true → SeqAt.shaped (.str x) = true → x.length ≤ 6 → ExA b H H' → Bag H' b → Q (.str x) H'
section
variable {P : Program} {w : World} {K : PySem.W.Frag} {mg : Str → Option Value} {base : Heap} {fP : Addr}
theorem ok_lname {f : Addr} {fd fdP : FuncData} (F : Fun K "_law_name" "_law_name" s_L_name f fd) (T : TxtM K mg fP) (G_pull : FnOk P w K mg base CX0 1 fP fdP ["_law_bag_here", "_law_many"] spPull) (b_pull : Binds K fdP ["_law_bag_here", "_law_many"] []) : FnOk P w K mg base CX0 2 f fd ["_law_bag_here"] spLName := by
  refine F.ok sc_L_name (fun vs H Q E h => ?_) (fun cdv A outer s H vs Q E r_pull h => ?_)
  · obtain ⟨_, rfl, _⟩ := h
    rfl
  · obtain ⟨b, rfl, hb, q⟩ := h
    refine ⟨_, (pss_cons (ps_set (i := 1) sc_L_name.nd rfl (Or.inl rfl) pe_str)
 (pss_cons (ps_set (i := 2) sc_L_name.nd rfl (Or.inl rfl) (pe_ix ix_str (pv 1) (pe_call G_pull r_pull rfl T.g_pull T.k_pull b_pull .nil pass0 (pa_cons (pv 0) (pa_cons pe_int pa_nil))) (fun _ _ => rfl)))
 (Evl.pss_cut (ps_for PassesOwn.never rfl (pi_range1 rfl T.range (pa_cons (pe_call G_pull r_pull rfl T.g_pull T.k_pull b_pull .nil pass0 (pa_cons (pv 0) (pa_cons pe_int pa_nil))) pa_nil)) (pg_name (i := 3) sc_L_name.nd rfl (Or.inl rfl))
 (pss_one (ps_set (i := 2) sc_L_name.nd rfl (Or.inl rfl) (pe_op op_add_str (pv 2) (pe_ix ix_str (pv 1) (pe_call G_pull r_pull rfl T.g_pull T.k_pull b_pull .nil pass0 (pa_cons (pv 0) (pa_cons pe_int pa_nil))) (fun _ _ => rfl))))))
 (pss_one (ps_ret (pe_ifExp (pt_cmpR (op_inT (hu65 r_pull)) (pv 2) (pe_tup (pa_cons pe_str (pa_cons pe_str (pa_cons pe_str pa_nil)))) (by rfl)) (pe_op op_add_str (pv 2) pe_str) (pv 2))))))), ?_⟩
    have l26 : letters.length ≤ 100000 := by decide +kernel
    refine ⟨_, rfl, _, rfl, b, 26, rfl, hb, by decide, by decide, fun e o e0 e1 hb1 => ?_⟩
    obtain ⟨c, hc, mc⟩ := letter_at e0 e1
    refine ⟨letters, e, c, rfl, rfl, szle l26, hc, ?_⟩
    refine ⟨fun σ' H' => ∃ (x : Str) (n : Nat) (c3 : Option V), σ' = [some (.ref b), some (.str letters), some (.str x), c3] ∧ LetS x n ∧ 1 ≤ n ∧ n ≤ 6 ∧ ExA b H H' ∧ Bag H' b, ?_, ?_⟩
    · refine ⟨_, rfl, b, 6, rfl, hb1, by decide, by decide, fun d o2 d0 d1 hb2 => ⟨d, rfl, by omega, by omega, ?_⟩⟩
      refine for_range (lo := 0) (n := d.toNat) (fun i σ' H' => ∃ (x : Str) (c3 : Option V), σ' = [some (.ref b), some (.str letters), some (.str x), c3] ∧ LetS x (1 + i) ∧ ExA b H H' ∧ Bag H' b) ⟨_, _, rfl, LetS.one mc, (ExA.of (Same.refl H)).upd.upd, hb2⟩ ?_ ?_
      · rintro i σ' H1 hi ⟨x, c3, rfl, hx, ex, hb3⟩
        refine ⟨_, rfl, _, rfl, _, rfl, b, 26, rfl, hb3, by decide, by decide, fun e' o' e0' e1' hb4 => ?_⟩
        obtain ⟨c', hc', mc'⟩ := letter_at e0' e1'
        refine ⟨letters, e', c', rfl, rfl, szle l26, hc', _, _, rfl, rfl, szle ?_, _, _, rfl, hx.snoc mc', ex.upd, hb4⟩
        show x.length + 1 ≤ 100000
        rw [hx.1]
        omega
      · rintro σ' H1 ⟨x, c3, rfl, hx, ex, hb3⟩
        exact ⟨x, _, c3, rfl, hx, by omega, by omega, ex, hb3⟩
    rintro σ' H1 ⟨x, n, c3, rfl, hx, n1, n6, ex, hb3⟩
    refine ⟨_, rfl, (by show 3 ≤ sizeLine; decide), fun t nt => ⟨.str x, wordsR, .str x, .tup (SqT.of upd_same) (.cons (.str _) (.cons (.str _) (.cons (.str _) .nil))), hx.shaped, by decide +kernel, _, rfl, ?_⟩⟩
    have s1 := Same.new (o := .tup [.str "fn", .str "let", .str "slope"]) nt
    cases hw : (wordsR.any fun z => PyData.eqv z (.str x)) with
    | true =>
      have l1 : ("z" : Str).length = 1 := by decide +kernel
      refine ⟨_, rfl, _, _, rfl, rfl, szle (by have := hx.1; omega), ?_⟩
      rcases word_of hw with rfl | rfl | rfl
      · exact q _ _ (by decide +kernel) (by decide +kernel) (by decide +kernel) (ex.same s1) (hb3.same s1)
      · exact q _ _ (by decide +kernel) (by decide +kernel) (by decide +kernel) (ex.same s1) (hb3.same s1)
      · exact q _ _ (by decide +kernel) (by decide +kernel) (by decide +kernel) (ex.same s1) (hb3.same s1)
    | false =>
      refine ⟨_, rfl, ?_⟩
      exact q x _ (hx.name n1 n6 hw) hx.shaped (by have := hx.1; omega) (ex.same s1) (hb3.same s1)
end
end Mine
namespace Mine
open PySem PySem.Spec PyProof.Rows L2
/-! ### lists of fractions and of pairs -/
inductive RatsAt (C : Addr) (H : Hp) : List V → List (Int × Int) → Prop where
  | nil : RatsAt C H [] []
  | cons {p : Addr} {v : Int × Int} {vs : List V} {l : List (Int × Int)} (h : RatAt C H p v.1 v.2) (t : RatsAt C H vs l) : RatsAt C H (.ref p :: vs) (v :: l)
theorem RatsAt.mono {C : Addr} {H H' : Hp} (e : Same H H') : ∀ {vs : List V} {l : List (Int × Int)}, RatsAt C H vs l → RatsAt C H' vs l
  | _, _, .nil => .nil
  | _, _, .cons h t => .cons (h.mono e) (t.mono e)
theorem RatsAt.append {C : Addr} {H : Hp} : ∀ {vs us : List V} {l m : List (Int × Int)}, RatsAt C H vs l → RatsAt C H us m → RatsAt C H (vs ++ us) (l ++ m)
  | _, _, _, _, .nil, g => g
  | _, _, _, _, .cons h t, g => .cons h (t.append g)
theorem RatsAt.get {C : Addr} {H : Hp} : ∀ {vs : List V} {l : List (Int × Int)} {i : Nat} {x : V}, RatsAt C H vs l → vs[i]? = some x → ∃ p v, x = .ref p ∧ l[i]? = some v ∧ RatAt C H p v.1 v.2
  | _, _, _, _, .nil, h => by simp at h
  | _, _, 0, _, .cons h _, e => by simp at e; subst e; exact ⟨_, _, rfl, rfl, h⟩
  | _, _, i + 1, x, .cons _ t, e => by
    obtain ⟨p, v, h1, h2, h3⟩ := t.get (i := i) (x := x) (by simpa using e)
    exact ⟨p, v, h1, by simpa using h2, h3⟩
theorem RatsAt.len {C : Addr} {H : Hp} : ∀ {vs : List V} {l : List (Int × Int)}, RatsAt C H vs l → vs.length = l.length
  | _, _, .nil => rfl
  | _, _, .cons _ t => congrArg (· + 1) t.len
def pairD (v : Int × Int) : PyData := .tuple [.int v.1, .int v.2]
theorem dp_pair {K : PySem.W.Frag} {H : Hp} {t : Addr} {n d : Int} (h : H t = some (.tup [.int n, .int d])) : Dp K H (.ref t) (pairD (n, d)) := .tup (SqT.of h) (.cons (.int _) (.cons (.int _) .nil))
inductive PairsAt (H : Hp) : List V → List (Int × Int) → Prop where
  | nil : PairsAt H [] []
  | cons {p : Addr} {v : Int × Int} {vs : List V} {l : List (Int × Int)} (h : H p = some (.tup [.int v.1, .int v.2])) (t : PairsAt H vs l) : PairsAt H (.ref p :: vs) (v :: l)
theorem PairsAt.mono {H H' : Hp} (e : Same H H') : ∀ {vs : List V} {l : List (Int × Int)}, PairsAt H vs l → PairsAt H' vs l
  | _, _, .nil => .nil
  | _, _, .cons h t => .cons (e _ _ h) (t.mono e)
theorem PairsAt.updL {H : Hp} {D : Addr} {xs : List V} {o : HO} (hD : H D = some (.lst xs)) : ∀ {vs : List V} {l : List (Int × Int)}, PairsAt H vs l → PairsAt (upd H D o) vs l
  | _, _, .nil => .nil
  | _, _, .cons h t => .cons (by rw [upd_ne (fun e => by rw [e, hD] at h; cases h)]; exact h) (t.updL hD)
theorem PairsAt.append {H : Hp} : ∀ {vs us : List V} {l m : List (Int × Int)}, PairsAt H vs l → PairsAt H us m → PairsAt H (vs ++ us) (l ++ m)
  | _, _, _, _, .nil, g => g
  | _, _, _, _, .cons h t, g => .cons h (t.append g)
theorem PairsAt.dp {K : PySem.W.Frag} {H : Hp} : ∀ {vs : List V} {l : List (Int × Int)}, PairsAt H vs l → DpAll K H vs (l.map pairD)
  | _, _, .nil => .nil
  | _, _, .cons h t => .cons (dp_pair h) t.dp
theorem PairsAt.len {H : Hp} : ∀ {vs : List V} {l : List (Int × Int)}, PairsAt H vs l → vs.length = l.length
  | _, _, .nil => rfl
  | _, _, .cons _ t => congrArg (· + 1) t.len
theorem take_snoc {α : Type} {l : List α} {m : Nat} {u : α} (h : l[m]? = some u) : l.take (m + 1) = l.take m ++ [u] := by rw [List.take_succ, h]; rfl
theorem canLay_pairs : ∀ l : List (Int × Int), PyData.canLayAll0 (l.map pairD) = true
  | [] => rfl
  | v :: l => by
    show (PyData.canLay0 (pairD v) && PyData.canLayAll0 (l.map pairD)) = true
    rw [canLay_pairs l]
    rfl
theorem depth_pair (v : Int × Int) : (pairD v).depth ≤ 5 := by
  show (PyData.tuple [.int v.1, .int v.2]).depth ≤ 5
  simp [PyData.depth, PyData.depthAll]
theorem depth_pairs : ∀ l : List (Int × Int), PyData.depthAll (l.map pairD) ≤ 6
  | [] => by simp [PyData.depthAll]
  | v :: l => by
    have h1 := depth_pair v
    have h2 := depth_pairs l
    show PyData.depthAll (pairD v :: l.map pairD) ≤ 6
    simp only [PyData.depthAll]
    omega
theorem sh_pairs (l : List (Int × Int)) : SeqAt.shaped (.list (l.map pairD)) = true := by
  unfold SeqAt.shaped
  rw [show (PyData.list (l.map pairD)).canLay0 = PyData.canLayAll0 (l.map pairD) from rfl, canLay_pairs, Bool.true_and]
  refine decide_eq_true ?_
  have := depth_pairs l
  simp only [PyData.depth]
  omega
theorem sh_pair (v : Int × Int) : SeqAt.shaped (pairD v) = true := by
  unfold SeqAt.shaped
  rw [show (pairD v).canLay0 = true from rfl, Bool.true_and]
  refine decide_eq_true ?_
  have := depth_pair v
  omega
theorem ne_self {d : PyData} (h : SeqAt.shaped d = true) : (!PyData.eqv d d) = false := by
  rw [PySem.SeqAt.eqv_refl d (SeqAt.canLay_of_shaped h)]
  rfl
/-! ### facts of the heap that a draw and a lambda leave -/
theorem tabS_pull {H : Hp} {P b : Addr} {q : Str} {o : HO} (t : LamX.TabS H P q) (hb : Bag H b) : LamX.TabS (upd H b o) P q := by
  obtain ⟨ys, hy⟩ := hb.lst
  obtain ⟨ps, h1, h2, h3⟩ := t
  refine ⟨ps, by rw [upd_ne (fun e => by rw [e, hy] at h1; cases h1)]; exact h1, h2, fun pos cv hc => ?_⟩
  obtain ⟨c, e1, e2⟩ := h3 pos cv hc
  refine ⟨c, e1, ?_⟩
  rw [upd_ne (fun e => by rw [e, hy] at e2; cases e2)]
  exact e2
theorem tup_pull {H : Hp} {t b : Addr} {xs : List V} {o : HO} (h : H t = some (.tup xs)) (hb : Bag H b) : upd H b o t = some (.tup xs) := by
  obtain ⟨ys, hy⟩ := hb.lst
  rw [upd_ne (fun e => by rw [e, hy] at h; cases h)]
  exact h
theorem rat_pull {C : Addr} {H : Hp} {p b : Addr} {n d : Int} {o : HO} (h : RatAt C H p n d) (hb : Bag H b) : RatAt C (upd H b o) p n d := by
  obtain ⟨ys, hy⟩ := hb.lst
  obtain ⟨dx, h⟩ := h
  refine ⟨dx, ?_⟩
  rw [upd_ne (fun e => by rw [e, hy] at h; cases h)]
  exact h
theorem Bag.extN {H H' : Hp} {b : Addr} (h : Bag H b) (e : LamX.ExtN H H') : Bag H' b := by
  obtain ⟨l, i, r, m, n, hb, hV, ne⟩ := h
  obtain ⟨ns, hl⟩ := hV.ls
  exact ⟨l, i, r, m, n, e _ _ hb (fun _ z => nomatch z), ⟨⟨ns, e _ _ hl (fun _ z => nomatch z)⟩, hV.i0, hV.r0, hV.m0, hV.m1⟩, ne⟩
theorem RatAt.extN {C : Addr} {H H' : Hp} {p : Addr} {n d : Int} (h : RatAt C H p n d) (e : LamX.ExtN H H') : RatAt C H' p n d := let ⟨dx, z⟩ := h; ⟨dx, e _ _ z (fun _ z => nomatch z)⟩
theorem KindR.extN {K : PySem.W.Frag} {C : Addr} {H H' : Hp} {v : V} {k : Kr} (h : KindR K C H v k) (e : LamX.ExtN H H') : KindR K C H' v k := by
  cases h with
  | int z => exact .int z
  | rat h => exact .rat (h.extN e)
  | dat h w => exact .dat (dp_ext e _ _ h) w
end Mine
namespace Mine
open PySem PySem.Spec PyProof.Rows L2 TL
def InC (n d : Int) : Prop := ∃ z e : Nat, z < 7 ∧ e < 2 ∧ low ((z : Int) - 3) (1 + (e : Int)) = (n, d)
theorem inC_zero : InC 0 1 := ⟨3, 0, by decide, by decide, by decide +kernel⟩
theorem inC_ok : ∀ z : Nat, z < 7 → ∀ e : Nat, e < 2 → (low ((z : Int) - 3) (1 + (e : Int))).1.natAbs < 2 ^ 30 ∧ (low ((z : Int) - 3) (1 + (e : Int))).2.natAbs < 2 ^ 30 := by decide +kernel
structure FactIn (f : Fact) : Prop where
  ok : FactOk f
  inc : InC f.n f.d
  c1 : f.mi = none → f.n = 0 ∧ f.d = 1
def FactAt (H : Hp) (t : Addr) (f : Fact) : Prop := ∃ c, H t = some (.tup [.int f.ar, vS f.mi, .ref c, vI f.de, vS f.sw]) ∧ H c = some (.tup [.int f.n, .int f.d])
theorem FactAt.mono {H H' : Hp} {t : Addr} {f : Fact} (h : FactAt H t f) (e : Same H H') : FactAt H' t f := let ⟨c, h1, h2⟩ := h; ⟨c, e _ _ h1, e _ _ h2⟩
def spFacts : Sp := fun vs H Q _ => ∃ b : Addr, vs = [.ref b, .bl true] ∧ Bag H b ∧ ∀ (t : Addr) (f : Fact) (H' : Hp), FactIn f → f.de ≠ some 3 → FactAt H' t f → ExA b H H' → Bag H' b → Q (.ref t) H'
structure TxtG (K : PySem.W.Frag) (mg : Str → Option Value) (fP fOf fLo : Addr) : Prop where
  g_pull : mg "_law_pull" = some (.ref fP)
  k_pull : PySem.W.keepIn K (.ref fP) = true
  g_of : mg "_law_of" = some (.ref fOf)
  k_of : PySem.W.keepIn K (.ref fOf) = true
  g_low : mg "_law_low" = some (.ref fLo)
  k_low : PySem.W.keepIn K (.ref fLo) = true
theorem lst_ne {H : Hp} {b l : Addr} {o : HO} (hb : Bag H b) (nl : H l = none) : l ≠ b := fun e => by
  obtain ⟨ys, hy⟩ := hb.lst
  rw [← e, nl] at hy
  cases hy
section
variable {P : Program} {w : World} {K : PySem.W.Frag} {mg : Str → Option Value} {base : Heap} {fP fOf fLo : Addr}
theorem ok_facts {f : Addr} {fd fdP fdOf fdLo : FuncData} (F : Fun K "_law_facts" "_law_facts" s_L_facts f fd) (T : TxtG K mg fP fOf fLo) (G_pull : FnOk P w K mg base CX0 1 fP fdP ["_law_bag_here", "_law_many"] spPull) (b_pull : Binds K fdP ["_law_bag_here", "_law_many"] [])
    (G_of : FnOk P w K mg base CX0 2 fOf fdOf ["_law_bag_here", "_law_things"] (spOf K)) (b_of : Binds K fdOf ["_law_bag_here", "_law_things"] []) (G_low : FnOk P w K mg base CX0 1 fLo fdLo ["_law_top", "_law_bottom"] spLow) (b_low : Binds K fdLo ["_law_top", "_law_bottom"] []) : FnOk P w K mg base CX0 3 f fd ["_law_bag_here", "_law_degrees"] spFacts := by
  refine F.ok sc_L_facts (fun vs H Q E h => ?_) (fun cdv A outer s H vs Q E r_of h => ?_)
  · obtain ⟨_, rfl, _⟩ := h
    rfl
  · obtain ⟨b, rfl, hb, q⟩ := h
    have r_pull := r_of.mono (show 1 ≤ 2 by decide)
    have r_low := r_of.mono (show 1 ≤ 2 by decide)
    refine ⟨_, (Evl.pss_cut (ps_if (pt_cmpR op_eq (pe_call G_pull r_pull rfl T.g_pull T.k_pull b_pull .nil pass0 (pa_cons (pv 0) (pa_cons pe_int pa_nil))) pe_int (nomark _))
 (pss_one (ps_ret (pe_tup (pa_cons pe_int (pa_cons pe_non (pa_cons (pe_tup (pa_cons pe_int (pa_cons pe_int pa_nil))) (pa_cons pe_non (pa_cons (pe_call G_of r_of rfl T.g_of T.k_of b_of .nil pass0 (pa_cons (pv 0) (pa_cons (pe_lst (pa_cons pe_non (pa_cons pe_str (pa_cons pe_str pa_nil)))) pa_nil))) pa_nil))))))))
 pss_nil)
 (Evl.pss_cut (ps_set (i := 2) sc_L_facts.nd rfl (Or.inl rfl) (pe_call G_of r_of rfl T.g_of T.k_of b_of .nil pass0 (pa_cons (pv 0) (pa_cons (pe_lst (pa_cons pe_non (pa_cons pe_non (pa_cons pe_str (pa_cons pe_str pa_nil))))) pa_nil))))
 (Evl.pss_cut (ps_set (i := 3) sc_L_facts.nd rfl (Or.inl rfl) (pe_ifExp (pt_cmpR op_notN (pv 2) pe_non (nomark _)) (pe_call G_low r_low rfl T.g_low T.k_low b_low .nil pass0 (pa_cons (pe_op op_sub (pe_call G_pull r_pull rfl T.g_pull T.k_pull b_pull .nil pass0 (pa_cons (pv 0) (pa_cons pe_int pa_nil))) pe_int) (pa_cons (pe_op op_add pe_int (pe_call G_pull r_pull rfl T.g_pull T.k_pull b_pull .nil pass0 (pa_cons (pv 0) (pa_cons pe_int pa_nil)))) pa_nil))) (pe_tup (pa_cons pe_int (pa_cons pe_int pa_nil)))))
 (pss_one (ps_ret (pe_tup (pa_cons pe_int (pa_cons (pv 2) (pa_cons (pv 3) (pa_cons (pe_ifExp (pt_val (pv 1)) (pe_call G_of r_of rfl T.g_of T.k_of b_of .nil pass0 (pa_cons (pv 0) (pa_cons (pe_lst (pa_cons pe_non (pa_cons pe_int (pa_cons pe_int (pa_cons pe_int pa_nil))))) pa_nil))) pe_non) (pa_cons pe_non pa_nil))))))))))), ?_⟩
    have z1 : Bt 30 0 ∧ Bt 30 1 := ⟨Nat.two_pow_pos _, Bt.one (by decide)⟩
    refine ⟨fun σ' H' => σ' = [some (.ref b), some (.bl true), none, none] ∧ ExA b H H' ∧ Bag H' b, ?_, ?_⟩
    · refine ⟨_, rfl, b, 3, rfl, hb, by decide, by decide, fun e o e0 e1 hb1 => ⟨rfl, _, rfl, ?_⟩⟩
      by_cases c : e = 0
      · refine itT (decide_eq_true (by rw [c])) ?_
        refine ⟨sz2, fun cp ncp => ⟨_, rfl, (by show 3 ≤ sizeLine; decide), fun l nl => ?_⟩⟩
        have v1 := Same.new (o := .tup [.int 0, .int 1]) ncp
        have v2 := v1.trans (Same.new (o := .lst [.non, .str "same", .str "minus"]) nl)
        refine ⟨b, l, _, rfl, hb1.same v2, SqL.of upd_same, lst_ne (o := .lst []) (hb1.same v1) nl, (by show 0 < 3; decide), (by show 3 < 1000; decide), fun j v o2 hv hb2 => ⟨(by show 5 ≤ sizeLine; decide), fun t nt => ?_⟩⟩
        have v3 := Same.new (o := .tup [.int 2, .non, .ref cp, .non, v]) nt
        have hcp := v3 _ _ (tup_pull (o := o2) ((Same.new (o := .lst [.non, .str "same", .str "minus"]) nl) _ _ (upd_same (H := upd H b o) (a := cp) (o := .tup [.int 0, .int 1]))) (hb1.same v2))
        have ex := (((ExA.of (Same.refl H)).upd (o := o)).same v2).upd (o := o2) |>.same v3
        have key : ∀ sw : Option Str, v = vS sw → (sw = none ∨ (2 = 2 ∧ (sw = some "same" ∨ sw = some "minus"))) → Q (.ref t) (upd (upd (upd (upd (upd H b o) cp (.tup [.int 0, .int 1])) l (.lst [.non, .str "same", .str "minus"])) b o2) t (.tup [.int 2, .non, .ref cp, .non, v])) := fun sw ev hs => by
          subst ev
          exact q t ⟨2, none, 0, 1, none, sw⟩ _ ⟨⟨.inr rfl, .inl rfl, fun _ => rfl, .inl rfl, by simpa using hs, lo_one 0, z1.1, z1.2⟩, inC_zero, fun _ => ⟨rfl, rfl⟩⟩ (fun z => nomatch z) ⟨cp, upd_same, hcp⟩ ex (hb2.same v3)
        have hj : j < 3 := (List.getElem?_eq_some_iff.mp hv).1
        match j, hj, hv with
        | 0, _, hv => cases hv; exact key none rfl (.inl rfl)
        | 1, _, hv => cases hv; exact key (some "same") rfl (.inr ⟨rfl, .inl rfl⟩)
        | 2, _, hv => cases hv; exact key (some "minus") rfl (.inr ⟨rfl, .inr rfl⟩)
      · refine itF (decide_eq_false fun z => c (V.int.inj z)) ?_
        exact ⟨rfl, (ExA.of (Same.refl H)).upd, hb1⟩
    rintro σ' H1 ⟨rfl, ex1, hb1⟩
    -- mirror
    refine ⟨fun σ' H' => ∃ mi : Option Str, σ' = [some (.ref b), some (.bl true), some (vS mi), none] ∧ (mi = none ∨ mi = some "even" ∨ mi = some "odd") ∧ ExA b H H' ∧ Bag H' b, ?_, ?_⟩
    · refine ⟨_, rfl, (by show 4 ≤ sizeLine; decide), fun l nl => ?_⟩
      have v1 := Same.new (o := .lst [.non, .non, .str "even", .str "odd"]) nl
      refine ⟨b, l, _, rfl, hb1.same v1, SqL.of upd_same, lst_ne (o := .lst []) hb1 nl, (by show 0 < 4; decide), (by show 4 < 1000; decide), fun j v o2 hv hb2 => ?_⟩
      have ex := (ex1.same v1).upd (o := o2)
      have hj : j < 4 := (List.getElem?_eq_some_iff.mp hv).1
      match j, hj, hv with
      | 0, _, hv => cases hv; exact ⟨none, rfl, .inl rfl, ex, hb2⟩
      | 1, _, hv => cases hv; exact ⟨none, rfl, .inl rfl, ex, hb2⟩
      | 2, _, hv => cases hv; exact ⟨some "even", rfl, .inr (.inl rfl), ex, hb2⟩
      | 3, _, hv => cases hv; exact ⟨some "odd", rfl, .inr (.inr rfl), ex, hb2⟩
    clear ex1 hb1 H1
    rintro σ' H1 ⟨mi, rfl, hmi, ex1, hb1⟩
    -- centre
    refine ⟨fun σ' H' => ∃ (cp : Addr) (n d : Int), σ' = [some (.ref b), some (.bl true), some (vS mi), some (.ref cp)] ∧ H' cp = some (.tup [.int n, .int d]) ∧ InC n d ∧ (mi = none → n = 0 ∧ d = 1) ∧ ExA b H H' ∧ Bag H' b, ?_, ?_⟩
    · refine ⟨_, rfl, rfl, _, rfl, ?_⟩
      cases mi with
      | none => exact ⟨sz2, fun cp ncp => ⟨cp, 0, 1, rfl, upd_same, inC_zero, fun _ => ⟨rfl, rfl⟩, ex1.same (Same.new ncp), hb1.same (Same.new ncp)⟩⟩
      | some m =>
        refine ⟨_, rfl, b, 7, rfl, hb1, by decide, by decide, fun e o e0 e1 hb2 => ⟨_, _, rfl, rfl, ?_⟩⟩
        refine ⟨_, rfl, b, 2, rfl, hb2, by decide, by decide, fun g o2 g0 g1 hb3 => ⟨_, _, rfl, rfl, ?_⟩⟩
        obtain ⟨z, rfl⟩ := Int.eq_ofNat_of_zero_le e0
        obtain ⟨y, rfl⟩ := Int.eq_ofNat_of_zero_le g0
        have hd : (1 + (y : Int)) ≠ 0 := by omega
        refine ⟨_, _, rfl, hd, (show Bt 5 ((z : Int) - 3) by show ((z : Int) - 3).natAbs < 2 ^ 5; omega).mono (by decide), (show Bt 5 (1 + (y : Int)) by show (1 + (y : Int)).natAbs < 2 ^ 5; omega).mono (by decide), fun cp H' np s' hp => ?_⟩
        exact ⟨cp, _, _, rfl, hp, ⟨z, y, by omega, by omega, rfl⟩, (fun z => nomatch z), (ex1.upd.upd).same s', hb3.same s'⟩
    clear ex1 hb1 H1
    rintro σ' H1 ⟨cp, n, d, rfl, hcp, hin, hc1, ex1, hb1⟩
    refine ⟨_, rfl, _, rfl, _, rfl, _, rfl, ?_⟩
    refine ⟨_, rfl, (by show 4 ≤ sizeLine; decide), fun l nl => ?_⟩
    have v1 := Same.new (o := .lst [.non, .int 0, .int 1, .int 2]) nl
    refine ⟨b, l, _, rfl, hb1.same v1, SqL.of upd_same, lst_ne (o := .lst []) hb1 nl, (by show 0 < 4; decide), (by show 4 < 1000; decide), fun j v o2 hv hb2 => ⟨(by show 5 ≤ sizeLine; decide), fun t nt => ?_⟩⟩
    have v3 := Same.new (o := .tup [.int 1, vS mi, .ref cp, v, .non]) nt
    have hcp2 := v3 _ _ (tup_pull (o := o2) (v1 _ _ hcp) (hb1.same v1))
    have ex := ((ex1.same v1).upd (o := o2)).same v3
    have lo : Lo n d ∧ Bt 30 n ∧ Bt 30 d := by
      obtain ⟨z, y, hz, hy, e⟩ := hin
      have h1 := low_lo (n := (z : Int) - 3) (show (1 + (y : Int)) ≠ 0 by omega)
      have h2 := inC_ok z hz y hy
      rw [e] at h1 h2
      exact ⟨h1, h2.1, h2.2⟩
    have key : ∀ de : Option Int, v = vI de → (de = none ∨ (1 = 1 ∧ (de = some 0 ∨ de = some 1 ∨ de = some 2 ∨ de = some 3))) → de ≠ some 3 → Q (.ref t) (upd (upd (upd H1 l (.lst [.non, .int 0, .int 1, .int 2])) b o2) t (.tup [.int 1, vS mi, .ref cp, v, .non])) := fun de ev hs h3 => by
      subst ev
      exact q t ⟨1, mi, n, d, de, none⟩ _ ⟨⟨.inl rfl, hmi.elim .inl (fun z => .inr ⟨rfl, z⟩), fun z => (hc1 z).1, by simpa using hs, .inl rfl, lo.1, lo.2.1, lo.2.2⟩, hin, hc1⟩ h3 ⟨cp, upd_same, hcp2⟩ ex (hb2.same v3)
    have hj : j < 4 := (List.getElem?_eq_some_iff.mp hv).1
    match j, hj, hv with
    | 0, _, hv => cases hv; exact key none rfl (.inl rfl) (fun z => nomatch z)
    | 1, _, hv => cases hv; exact key (some 0) rfl (.inr ⟨rfl, .inl rfl⟩) (by decide)
    | 2, _, hv => cases hv; exact key (some 1) rfl (.inr ⟨rfl, .inr (.inl rfl)⟩) (by decide)
    | 3, _, hv => cases hv; exact key (some 2) rfl (.inr ⟨rfl, .inr (.inr (.inl rfl))⟩) (by decide)
end
end Mine
namespace Mine
open PySem PySem.Spec PyProof.Rows L2 TL
def NewUns (C CR : Addr) (H : Hp) (Q : VK) (f : Fact) : Prop := ∀ (p : Addr) (H' : Hp), H p = none → Same H H' → UnsAt C CR H' p f → Q (.ref p) H'
def spLUns (C CR : Addr) : Sp := fun vs H Q _ => ∃ (t : Addr) (f : Fact), vs = [.ref t] ∧ FactAt H t f ∧ FactOk f ∧ NewUns C CR H Q f
def spFText : Sp := fun vs H Q _ => ∃ (t : Addr) (f : Fact), vs = [.ref t] ∧ FactAt H t f ∧ FactOk f ∧ ∀ H', Same H H' → Q (.str (factText f)) H'
structure TxtT (K : PySem.W.Frag) (mg : Str → Option Value) (CU fLr fPt : Addr) : Prop where
  g_Unseen : mg "Unseen" = some (.ref CU)
  str : mg "str" = none
  g_lratio : mg "_law_ratio" = some (.ref fLr)
  k_lratio : PySem.W.keepIn K (.ref fLr) = true
  g_ptext : mg "_law_pair_text" = some (.ref fPt)
  k_ptext : PySem.W.keepIn K (.ref fPt) = true
theorem ok_ar {f : Fact} (ok : FactOk f) : D60 f.ar := by rcases ok.ar with e | e <;> rw [e] <;> (show (_ : Nat) < _; decide)
theorem ok_de {f : Fact} {g : Int} (ok : FactOk f) (e : f.de = some g) : D60 g := by
  rcases ok.de with z | ⟨_, z | z | z | z⟩ <;> rw [z] at e <;> cases e <;> (show (_ : Nat) < _; decide)
theorem words_sum1 {f : Fact} (ok : FactOk f) : ((wordsOf f).map (·.length)).sum + (wordsOf f).length * (" " : Str).length ≤ 1000 := by
  obtain ⟨ar, mi, n, d, de, sw⟩ := f
  have d60n : D60 n := ok.n60.d60
  have d60d : D60 d := ok.d60.d60
  have omi : mi = none ∨ (ar = 1 ∧ (mi = some "even" ∨ mi = some "odd")) := ok.mi
  have ode : de = none ∨ (ar = 1 ∧ (de = some 0 ∨ de = some 1 ∨ de = some 2 ∨ de = some 3)) := ok.de
  have osw : sw = none ∨ (ar = 2 ∧ (sw = some "same" ∨ sw = some "minus")) := ok.sw
  have h1 : (itext ar).length ≤ 61 := (ok_ar ok).len
  have h2 : ((miW n d mi).map (·.length)).sum ≤ 305 := by
    rcases omi with rfl | ⟨_, rfl | rfl⟩
    · exact Nat.zero_le _
    · have := rat_len d60n d60d
      have l : ("even" : Str).length = 4 := by decide +kernel
      simp [miW, l]
      omega
    · have := rat_len d60n d60d
      have l : ("odd" : Str).length = 3 := by decide +kernel
      simp [miW, l]
      omega
  have h3 : ((deW de).map (·.length)).sum ≤ 100 := by
    rcases ode with rfl | ⟨_, rfl | rfl | rfl | rfl⟩ <;> decide +kernel
  have h4 : ((swW sw).map (·.length)).sum ≤ 100 := by
    rcases osw with rfl | ⟨_, rfl | rfl⟩ <;> decide +kernel
  have l1 : (" " : Str).length = 1 := by decide +kernel
  have c1 := miW_len n d mi
  have c2 := deW_len de
  have c3 := swW_len sw
  show (([itext ar] ++ miW n d mi ++ deW de ++ swW sw).map (·.length)).sum + ([itext ar] ++ miW n d mi ++ deW de ++ swW sw).length * _ ≤ _
  rw [List.map_append, List.map_append, List.map_append, List.sum_append, List.sum_append, List.sum_append, List.length_append, List.length_append, List.length_append, l1]
  simp
  omega
theorem words_sum {f : Fact} (ok : FactOk f) : ((wordsOf f).map (·.length)).sum + (wordsOf f).length * (" " : Str).length ≤ 16777216 := Nat.le_trans (words_sum1 ok) (by decide)
section
variable {P : Program} {w : World} {K : PySem.W.Frag} {mg : Str → Option Value} {base : Heap} {CU C CE fLr fPt : Addr}
theorem ok_lunseen {f fU : Addr} {fd fdLr fdU : FuncData} {g : List Value → List Value → List Value} (F : Fun K "_law_unseen" "_law_unseen" s_L_unseen f fd) (T : TxtT K mg CU fLr fPt) (G_lratio : FnOk P w K mg base CX0 5 fLr fdLr ["_law_pair_here"] (spLRatio K C)) (b_lratio : Binds K fdLr ["_law_pair_here"] [])
    (M_Unseen : Mk K CU fU) (G_Unseen : FnOk P w K mg base (L2.CX P w) 6 fU fdU ["self", "arity", "mirror", "centre", "degree", "swap"] (spUns K CU C)) (kb_Unseen : KBn K fdU ["self", "arity", "mirror", "centre", "degree", "swap"] 2 ["mirror", "centre", "degree", "swap"] g (fun vs zs => vs ++ zs)) :
    FnOk P w K mg base CX0 8 f fd ["_law_fact"] (spLUns CU C) := by
  refine F.ok sc_L_unseen (fun vs H Q E h => ?_) (fun cdv A outer s H vs Q E r_Unseen h => ?_)
  · obtain ⟨_, _, rfl, _⟩ := h
    rfl
  · obtain ⟨t, f, rfl, ⟨c, ht, hc⟩, ok, q⟩ := h
    have r_lratio := r_Unseen.mono (show 5 ≤ 7 by decide)
    refine ⟨_, (pss_one (ps_ret (pe_makeK M_Unseen G_Unseen r_Unseen rfl T.g_Unseen kb_Unseen passL (pa_cons (pe_ix ix_tup (pv 0) pe_int (fun _ _ => rfl)) pa_nil) (pk_cons (pe_ix ix_tup (pv 0) pe_int (fun _ _ => rfl)) (pk_cons (pe_call G_lratio r_lratio rfl T.g_lratio T.k_lratio b_lratio .nil pass0 (pa_cons (pe_ix ix_tup (pv 0) pe_int (fun _ _ => rfl)) pa_nil)) (pk_cons (pe_ix ix_tup (pv 0) pe_int (fun _ _ => rfl)) (pk_cons (pe_ix ix_tup (pv 0) pe_int (fun _ _ => rfl)) pk_nil))))))), ?_⟩
    refine ⟨_, rfl, t, _, 0, _, rfl, rfl, SqT.of ht, rfl, ?_⟩
    refine ⟨_, rfl, t, _, 1, _, rfl, rfl, SqT.of ht, rfl, ?_⟩
    refine ⟨_, rfl, t, _, 2, _, rfl, rfl, SqT.of ht, rfl, c, _, _, rfl, SqT.of hc, (by have := ok.lo.1; omega), ok.n60.mono (by decide), ok.d60.mono (by decide), fun p H1 np s1 hp => ?_⟩
    rw [low_of ok.lo] at hp
    refine ⟨_, rfl, t, _, 3, _, rfl, rfl, SqT.of (s1 _ _ ht), rfl, _, rfl, t, _, 4, _, rfl, rfl, SqT.of (s1 _ _ ht), rfl, rfl, rfl, fun x dx nx nd ne => ?_⟩
    have m1 : Same H1 (upd (upd H1 dx (.own x)) x (.ins CU dx [])) := Same.make nx nd
    refine ⟨x, dx, _, .r f.n f.d, f, rfl, upd_same, .rat (hp.mono m1), rfl, rfl, rfl, ok, fun p' H' ex hx hr => ⟨rfl, ?_⟩⟩
    refine q x H' (s1.free nx) (fun b o e => ex b o (fun z => ?_) (m1 _ _ (s1 _ _ e))) ⟨dx, p', hx, hr⟩
    rw [z] at e
    rw [s1 _ _ e] at nx
    cases nx
theorem ok_ftext {f : Addr} {fd fdPt : FuncData} (F : Fun K "_law_fact_text" "_law_fact_text" s_L_fact_text f fd) (T : TxtT K mg CU fLr fPt) (G_ptext : FnOk P w K mg base CX0 1 fPt fdPt ["_law_pair_here"] (spPairText K)) (b_ptext : Binds K fdPt ["_law_pair_here"] []) : FnOk P w K mg base CX0 2 f fd ["_law_fact"] spFText := by
  refine F.ok sc_L_fact_text (fun vs H Q E h => ?_) (fun cdv A outer s H vs Q E r_ptext h => ?_)
  · obtain ⟨_, _, rfl, _⟩ := h
    rfl
  · obtain ⟨t, f, rfl, ⟨c, ht, hc⟩, ok, q⟩ := h
    refine ⟨_, (pss_cons (ps_set (i := 1) sc_L_fact_text.nd rfl (Or.inl rfl) (pe_lst (pa_cons (pe_callTy call_str_int (by rfl) T.str (by decide +kernel) (pa_cons (pe_ix ix_tup (pv 0) pe_int (fun _ _ => rfl)) pa_nil)) pa_nil)))
 (Evl.pss_cut (ps_if (pt_cmpR op_notN (pe_ix ix_tup (pv 0) pe_int (fun _ _ => rfl)) pe_non (nomark _))
 (pss_one (ps_set (i := 1) sc_L_fact_text.nd rfl (Or.inl rfl) (pe_op op_cat (pv 1) (pe_lst (pa_cons (pe_ix ix_tup (pv 0) pe_int (fun _ _ => rfl)) (pa_cons (pe_call G_ptext r_ptext rfl T.g_ptext T.k_ptext b_ptext .nil pass0 (pa_cons (pe_ix ix_tup (pv 0) pe_int (fun _ _ => rfl)) pa_nil)) pa_nil))))))
 pss_nil)
 (Evl.pss_cut (ps_if (pt_cmpR op_notN (pe_ix ix_tup (pv 0) pe_int (fun _ _ => rfl)) pe_non (nomark _))
 (pss_one (ps_set (i := 1) sc_L_fact_text.nd rfl (Or.inl rfl) (pe_op op_cat (pv 1) (pe_lst (pa_cons pe_str (pa_cons (pe_callTy call_str_int (by rfl) T.str (by decide +kernel) (pa_cons (pe_ix ix_tup (pv 0) pe_int (fun _ _ => rfl)) pa_nil)) pa_nil))))))
 pss_nil)
 (pss_one (ps_ret (pe_join pe_str (pe_op op_cat (pv 1) (pe_ifExp (pt_cmpR op_notN (pe_ix ix_tup (pv 0) pe_int (fun _ _ => rfl)) pe_non (nomark _)) (pe_lst (pa_cons (pe_ix ix_tup (pv 0) pe_int (fun _ _ => rfl)) pa_nil)) (pe_lst pa_nil))))))))), ?_⟩
    have osum := words_sum ok
    have oar := ok_ar ok
    have ode : ∀ g, f.de = some g → D60 g := fun g e => ok_de ok e
    have d60n : D60 f.n := ok.n60.d60
    have d60d : D60 f.d := ok.d60.d60
    obtain ⟨ar, mi, n, d, de, sw⟩ := f
    refine ⟨_, rfl, t, _, 0, _, rfl, rfl, SqT.of ht, rfl, _, rfl, oar.log, (by show 1 ≤ sizeLine; decide), fun l0 nl0 => ?_⟩
    refine ⟨fun σ' H' => ∃ l, σ' = [some (.ref t), some (.ref l)] ∧ Same H H' ∧ H' l = some (.lst (([itext ar] ++ miW n d mi).map V.str)), ?_, ?_⟩
    · have s0 := Same.new (o := .lst [.str (itext ar)]) nl0
      refine ⟨_, rfl, t, _, 1, _, rfl, rfl, SqT.of (s0 _ _ ht), rfl, rfl, _, rfl, ?_⟩
      cases mi with
      | none => exact ⟨l0, rfl, s0, upd_same⟩
      | some m =>
        refine ⟨_, rfl, _, rfl, t, _, 1, _, rfl, rfl, SqT.of (s0 _ _ ht), rfl, _, rfl, t, _, 2, _, rfl, rfl, SqT.of (s0 _ _ ht), rfl, c, n, d, rfl, SqT.of (s0 _ _ hc), d60n, d60d, sz2, fun l1 nl1 => ?_⟩
        have v1 := Same.new (o := .lst [.str m, .str (ratText n d)]) nl1
        refine ⟨l0, l1, _, _, rfl, rfl, v1 _ _ upd_same, upd_same, (by show 1 + 2 ≤ sizeLine; decide), fun l2 nl2 => ?_⟩
        exact ⟨l2, rfl, s0.trans (v1.trans (Same.new nl2)), upd_same⟩
    clear nl0 l0
    rintro σ' H1 ⟨l0, rfl, s0, hl0⟩
    refine ⟨fun σ' H' => ∃ l, σ' = [some (.ref t), some (.ref l)] ∧ Same H H' ∧ H' l = some (.lst (([itext ar] ++ miW n d mi ++ deW de).map V.str)), ?_, ?_⟩
    · refine ⟨_, rfl, t, _, 3, _, rfl, rfl, SqT.of (s0 _ _ ht), rfl, rfl, _, rfl, ?_⟩
      cases de with
      | none =>
        refine ⟨l0, rfl, s0, ?_⟩
        rw [hl0]
        show some (HO.lst (([itext ar] ++ miW n d mi).map V.str)) = some (HO.lst (([itext ar] ++ miW n d mi ++ []).map V.str))
        rw [List.append_nil]
      | some g =>
        refine ⟨_, rfl, _, rfl, t, _, 3, _, rfl, rfl, SqT.of (s0 _ _ ht), rfl, g, rfl, (ode g rfl).log, sz2, fun l1 nl1 => ?_⟩
        have v1 := Same.new (o := .lst [.str "degree", .str (itext g)]) nl1
        refine ⟨l0, l1, _, _, rfl, rfl, v1 _ _ hl0, upd_same, ?_, fun l2 nl2 => ?_⟩
        · rw [List.length_map, List.length_append]
          have := miW_len n d mi
          exact szle (by show 1 + (miW n d mi).length + 2 ≤ 100000; omega)
        · refine ⟨l2, rfl, s0.trans (v1.trans (Same.new nl2)), ?_⟩
          rw [upd_same, List.map_append (l₂ := deW (some g))]
          rfl
    clear s0 hl0 l0 H1
    rintro σ' H1 ⟨l0, rfl, s0, hl0⟩
    have hlen : (([itext ar] ++ miW n d mi ++ deW de).map V.str).length ≤ 10 := by
      rw [List.length_map, List.length_append, List.length_append]
      have h1 := miW_len n d mi
      have h2 := deW_len de
      show 1 + (miW n d mi).length + (deW de).length ≤ 10
      omega
    refine ⟨⟨_, rfl⟩, _, rfl, _, rfl, t, _, 4, _, rfl, rfl, SqT.of (s0 _ _ ht), rfl, rfl, _, rfl, ?_⟩
    cases sw with
    | none =>
      refine ⟨(by show 0 ≤ sizeLine; decide), fun l1 nl1 => ?_⟩
      have v1 := Same.new (o := .lst []) nl1
      refine ⟨l0, l1, _, _, rfl, rfl, v1 _ _ hl0, upd_same, szle (by show _ + 0 ≤ 100000; omega), fun l2 nl2 => ?_⟩
      refine ⟨_, l2, wordsOf ⟨ar, mi, n, d, de, none⟩, rfl, rfl, .inl (SqL.of ?_), osum, q _ (s0.trans (v1.trans (Same.new nl2)))⟩
      rw [upd_same, List.append_nil]
      show some (HO.lst (([itext ar] ++ miW n d mi ++ deW de).map V.str)) = some (HO.lst (([itext ar] ++ miW n d mi ++ deW de ++ []).map V.str))
      rw [List.append_nil]
    | some x =>
      refine ⟨_, rfl, t, _, 4, _, rfl, rfl, SqT.of (s0 _ _ ht), rfl, (by show 1 ≤ sizeLine; decide), fun l1 nl1 => ?_⟩
      have v1 := Same.new (o := .lst [.str x]) nl1
      refine ⟨l0, l1, _, _, rfl, rfl, v1 _ _ hl0, upd_same, szle (by show _ + 1 ≤ 100000; omega), fun l2 nl2 => ?_⟩
      refine ⟨_, l2, wordsOf ⟨ar, mi, n, d, de, some x⟩, rfl, rfl, .inl (SqL.of ?_), osum, q _ (s0.trans (v1.trans (Same.new nl2)))⟩
      rw [upd_same]
      show _ = some (HO.lst (([itext ar] ++ miW n d mi ++ deW de ++ swW (some x)).map V.str))
      rw [List.map_append (l₂ := swW (some x))]
      rfl
end
end Mine
namespace Mine
open PySem PySem.Spec PyProof.Rows L2 TL
/-! ### the text of facts tells the facts -/
theorem itext_free (n : Int) : 32 ∉ tl (itext n) := fun h => (intText_free_32 n).mp h
theorem rat_free (n d : Int) : 32 ∉ tl (ratText n d) := by
  unfold ratText
  split
  · exact itext_free n
  · rw [tl_append, tl_append]
    intro h
    rcases List.mem_append.mp h with h | h
    · rcases List.mem_append.mp h with h | h
      · exact itext_free n h
      · exact absurd h (by decide +kernel)
    · exact itext_free d h
theorem words_free {f : Fact} (ok : FactOk f) : ∀ p ∈ wordsOf f, 32 ∉ tl p := by
  obtain ⟨ar, mi, n, d, de, sw⟩ := f
  have omi : mi = none ∨ (ar = 1 ∧ (mi = some ("even" : Str) ∨ mi = some ("odd" : Str))) := ok.mi
  have osw : sw = none ∨ (ar = 2 ∧ (sw = some ("same" : Str) ∨ sw = some ("minus" : Str))) := ok.sw
  intro p hp
  rcases List.mem_append.mp (show p ∈ [itext ar] ++ miW n d mi ++ deW de ++ swW sw from hp) with hp | hp
  · rcases List.mem_append.mp hp with hp | hp
    · rcases List.mem_append.mp hp with hp | hp
      · rw [List.mem_singleton.mp hp]
        exact itext_free ar
      · rcases omi with rfl | ⟨_, rfl | rfl⟩
        · cases hp
        all_goals
          rcases List.mem_cons.mp hp with rfl | hp
          · decide +kernel
          · rw [List.mem_singleton.mp hp]
            exact rat_free n d
    · cases de with
      | none => cases hp
      | some g =>
        rcases List.mem_cons.mp hp with rfl | hp
        · decide +kernel
        · rw [List.mem_singleton.mp hp]
          exact itext_free g
  · rcases osw with rfl | ⟨_, rfl | rfl⟩
    · cases hp
    all_goals
      rw [List.mem_singleton.mp hp]
      decide +kernel
theorem words_ne (f : Fact) : wordsOf f ≠ [] := fun z => by
  have : (wordsOf f).length = 0 := by rw [z]; rfl
  simp [wordsOf] at this
theorem words_of_text {f f' : Fact} (ok : FactOk f) (ok' : FactOk f') (h : factText f = factText f') : wordsOf f = wordsOf f' := by
  have e1 := split_join (y := " ") (s := 32) (S := []) (by decide +kernel) (by decide +kernel) (words_ne f) (words_free ok)
  have e2 := split_join (y := " ") (s := 32) (S := []) (by decide +kernel) (by decide +kernel) (words_ne f') (words_free ok')
  unfold factText at h
  rw [h] at e1
  exact e1.symm.trans e2
def centB : Bool := (List.range 7).all fun z => (List.range 2).all fun e => (List.range 7).all fun z' => (List.range 2).all fun e' => !decide (ratText (low ((z : Int) - 3) (1 + (e : Int))).1 (low ((z : Int) - 3) (1 + (e : Int))).2 = ratText (low ((z' : Int) - 3) (1 + (e' : Int))).1 (low ((z' : Int) - 3) (1 + (e' : Int))).2) || decide (low ((z : Int) - 3) (1 + (e : Int)) = low ((z' : Int) - 3) (1 + (e' : Int)))
theorem centB_true : centB = true := by decide +kernel
theorem cent_inj (z : Nat) (hz : z < 7) (e : Nat) (he : e < 2) (z' : Nat) (hz' : z' < 7) (e' : Nat) (he' : e' < 2) (h : ratText (low ((z : Int) - 3) (1 + (e : Int))).1 (low ((z : Int) - 3) (1 + (e : Int))).2 = ratText (low ((z' : Int) - 3) (1 + (e' : Int))).1 (low ((z' : Int) - 3) (1 + (e' : Int))).2) : low ((z : Int) - 3) (1 + (e : Int)) = low ((z' : Int) - 3) (1 + (e' : Int)) := by
  have h1 := List.all_eq_true.mp centB_true z (List.mem_range.mpr hz)
  have h2 := List.all_eq_true.mp h1 e (List.mem_range.mpr he)
  have h3 := List.all_eq_true.mp h2 z' (List.mem_range.mpr hz')
  have h4 := List.all_eq_true.mp h3 e' (List.mem_range.mpr he')
  rw [decide_eq_true h] at h4
  exact of_decide_eq_true h4
theorem inC_inj {n d n' d' : Int} (h : InC n d) (h' : InC n' d') (e : ratText n d = ratText n' d') : n = n' ∧ d = d' := by
  obtain ⟨z, y, hz, hy, e1⟩ := h
  obtain ⟨z', y', hz', hy', e2⟩ := h'
  have := cent_inj z hz y hy z' hz' y' hy'
  rw [e1, e2] at this
  have := this e
  exact ⟨congrArg Prod.fst this, congrArg Prod.snd this⟩
theorem de_inj {a b : Option Int} (ha : a = none ∨ (a = some 0 ∨ a = some 1 ∨ a = some 2 ∨ a = some 3)) (hb : b = none ∨ (b = some 0 ∨ b = some 1 ∨ b = some 2 ∨ b = some 3)) (e : deW a = deW b) : a = b := by
  rcases ha with rfl | rfl | rfl | rfl | rfl <;> rcases hb with rfl | rfl | rfl | rfl | rfl <;> first | rfl | exact absurd e (by decide +kernel)
theorem fact_inj {f f' : Fact} (h : FactIn f) (h' : FactIn f') (e : factText f = factText f') : f = f' := by
  have ew := words_of_text h.ok h'.ok e
  obtain ⟨ar, mi, n, d, de, sw⟩ := f
  obtain ⟨ar', mi', n', d', de', sw'⟩ := f'
  have oar : ar = 1 ∨ ar = 2 := h.ok.ar
  have oar' : ar' = 1 ∨ ar' = 2 := h'.ok.ar
  have omi : mi = none ∨ (ar = 1 ∧ (mi = some ("even" : Str) ∨ mi = some ("odd" : Str))) := h.ok.mi
  have omi' : mi' = none ∨ (ar' = 1 ∧ (mi' = some ("even" : Str) ∨ mi' = some ("odd" : Str))) := h'.ok.mi
  have ode : de = none ∨ (ar = 1 ∧ (de = some 0 ∨ de = some 1 ∨ de = some 2 ∨ de = some 3)) := h.ok.de
  have ode' : de' = none ∨ (ar' = 1 ∧ (de' = some 0 ∨ de' = some 1 ∨ de' = some 2 ∨ de' = some 3)) := h'.ok.de
  have osw : sw = none ∨ (ar = 2 ∧ (sw = some ("same" : Str) ∨ sw = some ("minus" : Str))) := h.ok.sw
  have osw' : sw' = none ∨ (ar' = 2 ∧ (sw' = some ("same" : Str) ∨ sw' = some ("minus" : Str))) := h'.ok.sw
  have hc : mi = none → n = 0 ∧ d = 1 := h.c1
  have hc' : mi' = none → n' = 0 ∧ d' = 1 := h'.c1
  have inc : InC n d := h.inc
  have inc' : InC n' d' := h'.inc
  have ew : itext ar :: (miW n d mi ++ deW de ++ swW sw) = itext ar' :: (miW n' d' mi' ++ deW de' ++ swW sw') := ew
  obtain ⟨e1, e2⟩ := List.cons.inj ew
  have ear : ar = ar' := by
    rcases oar with rfl | rfl <;> rcases oar' with rfl | rfl <;> first | rfl | exact absurd e1 (by decide +kernel)
  subst ear
  clear e1 ew e h h'
  rcases oar with rfl | rfl
  · -- one argument
    have hs : sw = none := osw.elim id fun z => absurd z.1 (by decide)
    have hs' : sw' = none := osw'.elim id fun z => absurd z.1 (by decide)
    subst hs
    subst hs'
    have ode := ode.imp id And.right
    have ode' := ode'.imp id And.right
    have e2 : miW n d mi ++ deW de = miW n' d' mi' ++ deW de' := by
      have := e2
      simpa [swW] using this
    have key : ∀ (m m' : Str) , miW n d (some m) ++ deW de = miW n' d' (some m') ++ deW de' → m = m' ∧ n = n' ∧ d = d' ∧ de = de' := fun m m' e => by
      have e : m :: ratText n d :: deW de = m' :: ratText n' d' :: deW de' := e
      obtain ⟨a1, e⟩ := List.cons.inj e
      obtain ⟨a2, a3⟩ := List.cons.inj e
      obtain ⟨b1, b2⟩ := inC_inj inc inc' a2
      exact ⟨a1, b1, b2, de_inj ode ode' a3⟩
    have no : ∀ (x : Option Int) (m r : Str) (l : List Str), (m = "even" ∨ m = "odd") → deW x ≠ m :: r :: l := fun x m r l hm z => by
      cases x with
      | none => cases z
      | some g =>
        have := (List.cons.inj z).1
        rcases hm with rfl | rfl <;> exact absurd this (by decide +kernel)
    rcases omi with rfl | ⟨_, hm⟩
    · rcases omi' with rfl | ⟨_, hm'⟩
      · obtain ⟨rfl, rfl⟩ := hc rfl
        obtain ⟨rfl, rfl⟩ := hc' rfl
        rw [de_inj ode ode' e2]
      · obtain ⟨m', rfl, km'⟩ : ∃ m', mi' = some m' ∧ (m' = "even" ∨ m' = "odd") := hm'.elim (fun z => ⟨_, z, .inl rfl⟩) (fun z => ⟨_, z, .inr rfl⟩)
        exact absurd e2 (no de m' _ _ km')
    · obtain ⟨m, rfl, km⟩ : ∃ m, mi = some m ∧ (m = "even" ∨ m = "odd") := hm.elim (fun z => ⟨_, z, .inl rfl⟩) (fun z => ⟨_, z, .inr rfl⟩)
      rcases omi' with rfl | ⟨_, hm'⟩
      · exact absurd e2.symm (no de' m _ _ km)
      · obtain ⟨m', rfl, km'⟩ : ∃ m', mi' = some m' ∧ (m' = "even" ∨ m' = "odd") := hm'.elim (fun z => ⟨_, z, .inl rfl⟩) (fun z => ⟨_, z, .inr rfl⟩)
        obtain ⟨rfl, rfl, rfl, rfl⟩ := key m m' e2
        rfl
  · -- two arguments
    have h1 : mi = none := omi.elim id fun z => absurd z.1 (by decide)
    have h1' : mi' = none := omi'.elim id fun z => absurd z.1 (by decide)
    have h2 : de = none := ode.elim id fun z => absurd z.1 (by decide)
    have h2' : de' = none := ode'.elim id fun z => absurd z.1 (by decide)
    subst h1
    subst h1'
    subst h2
    subst h2'
    obtain ⟨rfl, rfl⟩ := hc rfl
    obtain ⟨rfl, rfl⟩ := hc' rfl
    have e2 : swW sw = swW sw' := e2
    rcases osw with rfl | ⟨_, rfl | rfl⟩ <;> rcases osw' with rfl | ⟨_, rfl | rfl⟩ <;> first | rfl | exact absurd e2 (by decide +kernel)
def factD (f : Fact) : PyData := .tuple [.int f.ar, dS f.mi, .tuple [.int f.n, .int f.d], dI f.de, dS f.sw]
theorem dS_inj {a b : Option Str} (h : PyData.eqv (dS a) (dS b) = true) : a = b := by
  cases a <;> cases b
  · rfl
  · cases h
  · cases h
  · rename_i x y
    have h : (x == y) = true := h
    rw [beq_iff_eq.mp h]
theorem dI_inj {a b : Option Int} (h : PyData.eqv (dI a) (dI b) = true) : a = b := by
  cases a <;> cases b
  · rfl
  · cases h
  · cases h
  · rename_i x y
    have h : (x == y) = true := h
    rw [beq_iff_eq.mp h]
theorem factD_inj {f f' : Fact} (h : PyData.eqv (factD f) (factD f') = true) : f = f' := by
  obtain ⟨ar, mi, n, d, de, sw⟩ := f
  obtain ⟨ar', mi', n', d', de', sw'⟩ := f'
  have h : ((ar == ar') && (PyData.eqv (dS mi) (dS mi') && (((n == n') && ((d == d') && true)) && (PyData.eqv (dI de) (dI de') && (PyData.eqv (dS sw) (dS sw') && true))))) = true := h
  simp only [Bool.and_eq_true, beq_iff_eq, and_true] at h
  obtain ⟨h1, h2, ⟨h3, h4⟩, h5, h6⟩ := h
  rw [h1, dS_inj h2, h3, h4, dI_inj h5, dS_inj h6]
end Mine
namespace Mine
open PySem PySem.Spec PyProof.Rows L2 TL
structure TxtK (K : PySem.W.Frag) (mg : Str → Option Value) (CU C CE fE fW fN fO fS CF fF : Addr) (tk : Tok) (fBa fP fOf fSa fNa fLn fFa fLu fFt fPa fEq fSt fRe pFr fFr : Addr) : Prop where
  u : TxtU K mg CU C CE fE fW fN fO fS CF fF tk
  range : mg "range" = none
  repr : mg "repr" = none
  list : mg "list" = none
  g_bag : mg "_law_bag" = some (.ref fBa)
  k_bag : PySem.W.keepIn K (.ref fBa) = true
  g_pull : mg "_law_pull" = some (.ref fP)
  k_pull : PySem.W.keepIn K (.ref fP) = true
  g_of : mg "_law_of" = some (.ref fOf)
  k_of : PySem.W.keepIn K (.ref fOf) = true
  g_same : mg "_law_same" = some (.ref fSa)
  k_same : PySem.W.keepIn K (.ref fSa) = true
  g_name : mg "is_name" = some (.ref fNa)
  k_name : PySem.W.keepIn K (.ref fNa) = true
  g_lname : mg "_law_name" = some (.ref fLn)
  k_lname : PySem.W.keepIn K (.ref fLn) = true
  g_facts : mg "_law_facts" = some (.ref fFa)
  k_facts : PySem.W.keepIn K (.ref fFa) = true
  g_lunseen : mg "_law_unseen" = some (.ref fLu)
  k_lunseen : PySem.W.keepIn K (.ref fLu) = true
  g_ftext : mg "_law_fact_text" = some (.ref fFt)
  k_ftext : PySem.W.keepIn K (.ref fFt) = true
  g_pair : mg "_law_pair" = some (.ref fPa)
  k_pair : PySem.W.keepIn K (.ref fPa) = true
  s_eq : Spec K CU "__eq__" fEq
  ne : PySem.W.findIn K (.ref CU) "__ne__" = some (some (.builtin "object.__ne__"))
  mro : PySem.W.mroIn K CU (.type "object") = some true
  s_str : Spec K CU "__str__" fSt
  s_repr : Spec K CU "__repr__" fRe
  p_free : PropOf K CU "is_free" pFr fFr
  tyu : ∀ (H : Hp) (a dx : Addr) (fs : List (Str × V)), H a = some (.ins CU dx fs) → TyX K H (.ref a) (.ref CU)
  nfS : PySem.W.notFirst K CU (.type "str") = true
  ktS : PySem.W.kitOne K (.type "str") (.ref CU) = some false
theorem joinL_len (S : List Nat) : ∀ ps : List (List Nat), (joinL S ps).length ≤ (ps.map List.length).sum + ps.length * S.length
  | [] => Nat.zero_le _
  | [p] => by
    show p.length ≤ p.length + 0 + _
    omega
  | p :: q :: r => by
    have h := joinL_len S (q :: r)
    show (p ++ (S ++ joinL S (q :: r))).length ≤ (p.length + ((q :: r).map List.length).sum) + ((q :: r).length + 1) * S.length
    rw [List.length_append, List.length_append, Nat.add_mul, Nat.one_mul]
    omega
theorem text_len {f : Fact} (ok : FactOk f) : (factText f).length ≤ 1000 := by
  have h := joinL_len (tl " ") ((wordsOf f).map tl)
  rw [← tl_join, ← join_eq, List.map_map, List.length_map] at h
  exact Nat.le_trans h (words_sum1 ok)
theorem dp_fact {K : PySem.W.Frag} {H : Hp} {t : Addr} {f : Fact} (h : FactAt H t f) : Dp K H (.ref t) (factD f) := by
  obtain ⟨c, h1, h2⟩ := h
  exact .tup (SqT.of h1) (.cons (.int _) (.cons (dp_vS _) (.cons (dp_pair h2) (.cons (dp_vI _) (.cons (dp_vS _) .nil)))))
theorem sh_fact {f : Fact} (ok : FactOk f) : SeqAt.shaped (factD f) = true := by
  obtain ⟨ar, mi, n, d, de, sw⟩ := f
  have omi : mi = none ∨ (ar = 1 ∧ (mi = some ("even" : Str) ∨ mi = some ("odd" : Str))) := ok.mi
  have osw : sw = none ∨ (ar = 2 ∧ (sw = some ("same" : Str) ∨ sw = some ("minus" : Str))) := ok.sw
  have h1 : (dS mi).canLay0 = true := by rcases omi with rfl | ⟨_, rfl | rfl⟩ <;> decide +kernel
  have h2 : (dI de).canLay0 = true := by cases de <;> rfl
  have h3 : (dS sw).canLay0 = true := by rcases osw with rfl | ⟨_, rfl | rfl⟩ <;> decide +kernel
  unfold SeqAt.shaped
  rw [show (factD ⟨ar, mi, n, d, de, sw⟩).canLay0 = (true && ((dS mi).canLay0 && ((true && (true && true)) && ((dI de).canLay0 && ((dS sw).canLay0 && true))))) from rfl, h1, h2, h3]
  clear h1 h2 h3 omi osw ok
  cases mi <;> cases de <;> cases sw <;> rfl
theorem text_eqv {f f' : Fact} (h : FactIn f) (h' : FactIn f') : decide (factText f = factText f') = PyData.eqv (factD f) (factD f') := by
  cases e : PyData.eqv (factD f) (factD f') with
  | true => exact decide_eq_true (by rw [factD_inj e])
  | false =>
    refine decide_eq_false fun z => ?_
    have := fact_inj h h' z
    rw [this, PySem.SeqAt.eqv_refl _ (SeqAt.canLay_of_shaped (sh_fact h'.ok))] at e
    cases e
def tellD (f : Fact) : PyData := .list [.int f.ar, dS f.mi, pairD (f.n, f.d), dI f.de, dS f.sw, .str (factText f), .str (factText f), .str ("Unseen(" ++ factText f ++ ")"), .bool (freeOf f)]
theorem tell_ok (f : Fact) : okD 3 (tellD f) = true := by
  obtain ⟨ar, mi, n, d, de, sw⟩ := f
  cases mi <;> cases de <;> cases sw <;> rfl
theorem okW : FactOk ⟨1, some "odd", -4, 1, some 3, none⟩ := ⟨.inl rfl, .inr ⟨rfl, .inr rfl⟩, (fun z => nomatch z), .inr ⟨rfl, .inr (.inr (.inr rfl))⟩, .inl rfl, lo_one _, (by unfold Bt; decide), (by unfold Bt; decide)⟩
theorem ok1 : FactOk ⟨1, none, 0, 1, none, none⟩ := ⟨.inl rfl, .inl rfl, (fun _ => rfl), .inl rfl, .inl rfl, lo_one _, (by unfold Bt; decide), (by unfold Bt; decide)⟩
theorem ok2 : FactOk ⟨2, none, 0, 1, none, none⟩ := ⟨.inr rfl, .inl rfl, (fun _ => rfl), .inl rfl, .inl rfl, lo_one _, (by unfold Bt; decide), (by unfold Bt; decide)⟩
theorem exA_same {H H' : Hp} {x dx : Addr} {o u : HO} (nx : H x = none) (nd : H dx = none) (ex : ExA x (upd (upd H dx o) x u) H') : Same H H' := fun b z e => ex b z (fun q => by rw [q, nx] at e; cases e) (Same.make nx nd _ _ e)
theorem strOk_of {x : Str} (h : SeqAt.shaped (.str x) = true) : PyData.strOk x = true := (Bool.and_eq_true_iff.mp h).1
theorem shaped_str {x : Str} (h : PyData.strOk x = true) : SeqAt.shaped (.str x) = true := by
  unfold SeqAt.shaped
  rw [show (PyData.str x).canLay0 = PyData.strOk x from rfl, h]
  rfl
theorem shaped_app {x y : Str} (hx : SeqAt.shaped (.str x) = true) (hy : PyData.strOk y = true) : SeqAt.shaped (.str (x ++ y)) = true := by
  refine shaped_str ?_
  have h1 := strOk_of hx
  unfold PyData.strOk at *
  rw [← Array.all_toList] at *
  show ((tl (x ++ y)).all _) = true
  rw [tl_append, List.all_append, h1, hy]
  rfl
theorem not_name {x y : Str} (h : ((tl y).all fun c => decide (c ∈ tl letters)) = false) : isNameS (x ++ y) = false := by
  unfold isNameS
  have e : ((tl (x ++ y)).all fun c => decide (c ∈ tl letters)) = false := by
    rw [tl_append, List.all_append, h, Bool.and_false]
  rw [e, Bool.and_false, Bool.and_false]
section
variable {P : Program} {w : World} {K : PySem.W.Frag} {mg : Str → Option Value} {base : Heap}
def spLaw (K : PySem.W.Frag) : Sp := fun vs H Q _ => ∃ (a : Addr) (ns : List Int), vs = [.ref a] ∧ SqL K H a (ns.map V.int) ∧ ∀ H', Q (.bl true) H'
theorem ok_law {f CU C CE fE fW fN fO fS CF fF fBa fP fOf fSa fNa fLn fFa fLu fFt fPa fEq fSt fRe pFr fFr fU : Addr} {tk : Tok} {fd fdBa fdP fdOf fdSa fdNa fdLn fdFa fdLu fdFt fdPa fdEq fdSt fdRe fdFr fdU : FuncData} {g1 g2 : List Value → List Value → List Value} {ds1 ds2 : List Value}
    (F : Fun K "law" "law" s_law f fd) (T : TxtK K mg CU C CE fE fW fN fO fS CF fF tk fBa fP fOf fSa fNa fLn fFa fLu fFt fPa fEq fSt fRe pFr fFr)
    (G_bag : FnOk P w K mg base CX0 1 fBa fdBa ["_law_script"] (spBag K)) (b_bag : Binds K fdBa ["_law_script"] [])
    (G_pull : FnOk P w K mg base CX0 1 fP fdP ["_law_bag_here", "_law_many"] spPull) (b_pull : Binds K fdP ["_law_bag_here", "_law_many"] [])
    (G_of : FnOk P w K mg base CX0 2 fOf fdOf ["_law_bag_here", "_law_things"] (spOf K)) (b_of : Binds K fdOf ["_law_bag_here", "_law_things"] [])
    (G_same : FnOk P w K mg base CX0 4 fSa fdSa ["_law_found", "_law_due"] (spSame K 4)) (b_same : Binds K fdSa ["_law_found", "_law_due"] [])
    (G_name : FnOk P w K mg base CX0 1 fNa fdNa ["value"] (spName K)) (b_name : Binds K fdNa ["value"] []) (kb_name : KBn K fdNa ["value"] 0 ["value"] g1 (fun vs zs => vs ++ zs))
    (G_lname : FnOk P w K mg base CX0 2 fLn fdLn ["_law_bag_here"] spLName) (b_lname : Binds K fdLn ["_law_bag_here"] [])
    (G_facts : FnOk P w K mg base CX0 3 fFa fdFa ["_law_bag_here", "_law_degrees"] spFacts) (b_facts : Binds K fdFa ["_law_bag_here", "_law_degrees"] [])
    (G_lunseen : FnOk P w K mg base CX0 8 fLu fdLu ["_law_fact"] (spLUns CU C)) (b_lunseen : Binds K fdLu ["_law_fact"] [])
    (G_ftext : FnOk P w K mg base CX0 2 fFt fdFt ["_law_fact"] spFText) (b_ftext : Binds K fdFt ["_law_fact"] [])
    (G_pair : FnOk P w K mg base CX0 1 fPa fdPa ["_law_found"] (spPair C)) (b_pair : Binds K fdPa ["_law_found"] [])
    (G_eq : FnOk P w K mg base CX0 1 fEq fdEq ["self", "other"] (spUnsEq K CU C)) (b_eq : Binds K fdEq ["self", "other"] [])
    (G_str : FnOk P w K mg base CX0 1 fSt fdSt ["self"] (spUnsStr CU C)) (b_str : Binds K fdSt ["self"] [])
    (G_repr : FnOk P w K mg base CX0 3 fRe fdRe ["self"] (spUnsRepr CU C)) (b_repr : Binds K fdRe ["self"] [])
    (G_free : FnOk P w K mg base CX0 1 fFr fdFr ["self"] (spFree CU C)) (b_free : Binds K fdFr ["self"] [])
    (M_Unseen : Mk K CU fU) (G_Unseen : FnOk P w K mg base (L2.CX P w) 6 fU fdU ["self", "arity", "mirror", "centre", "degree", "swap"] (spUns K CU C))
    (b1_Unseen : Vals [.int 1, .non, .int 0, .non, .non] ds1 ∧ Binds K fdU ["self", "arity", "mirror", "centre", "degree", "swap"] ds1) (b2_Unseen : Vals [.non, .int 0, .non, .non] ds2 ∧ Binds K fdU ["self", "arity", "mirror", "centre", "degree", "swap"] ds2)
    (kc_Unseen : KBn K fdU ["self", "arity", "mirror", "centre", "degree", "swap"] 1 ["mirror", "centre", "degree"] g2 (fun vs zs => vs ++ [.int 1] ++ zs ++ [.non])) :
    FnOk P w K mg base CX0 10 f fd ["_law_script"] (spLaw K) := by
  refine F.ok sc_law (fun vs H Q E h => ?_) (fun cdv A outer s H vs Q E hr h => ?_)
  · obtain ⟨_, _, rfl, _⟩ := h
    rfl
  · obtain ⟨a, ns, rfl, hS, k⟩ := h
    have r1 : Room 1 _ := hr.mono (by decide)
    have r2 : Room 2 _ := hr.mono (by decide)
    have r3 : Room 3 _ := hr.mono (by decide)
    have r4 : Room 4 _ := hr.mono (by decide)
    have r_bag := r1
    have r_pull := r1
    have r_of := r2
    have r_same := r4
    have r_name := r1
    have r_lname := r2
    have r_facts := r3
    have r_lunseen : Room 8 _ := hr.mono (by decide)
    have r_ftext := r2
    have r_pair := r1
    have r_eq := r1
    have r_ne := r2
    have r_str := r3
    have r_repr := r4
    have r_free := r2
    have r_Unseen : Room 7 _ := hr.mono (by decide)
    refine ⟨_, (pss_cons (ps_set (i := 1) sc_law.nd rfl (Or.inl rfl) (pe_call G_bag r_bag rfl T.g_bag T.k_bag b_bag .nil pass0 (pa_cons (pv 0) pa_nil)))
 (Evl.pss_cut (ps_for PassesOwn.never rfl (pi_range1 rfl T.range (pa_cons pe_int pa_nil)) (pg_name (i := 2) sc_law.nd rfl (Or.inl rfl))
 (Evl.pss_cut (ps_set (i := 3) sc_law.nd rfl (Or.inl rfl) (pe_call G_lname r_lname rfl T.g_lname T.k_lname b_lname .nil pass0 (pa_cons (pv 1) pa_nil)))
 (Evl.pss_cut (ps_set (i := 4) sc_law.nd rfl (Or.inl rfl) (pe_call G_of r_of rfl T.g_of T.k_of b_of .nil pass0 (pa_cons (pv 1) (pa_cons (pe_lst (pa_cons pe_str (pa_cons pe_str (pa_cons pe_str (pa_cons pe_str (pa_cons (pe_op op_add_str (pv 3) pe_str) (pa_cons (pe_op op_add_str (pv 3) pe_str) (pa_cons (pe_op op_add_str (pv 3) pe_str) (pa_cons pe_str (pa_cons (pe_op op_add_str (pv 3) pe_str) (pa_cons pe_non (pa_cons pe_int (pa_cons pe_bl (pa_cons (pe_lst (pa_cons (pv 3) pa_nil)) pa_nil)))))))))))))) pa_nil))))
 (Evl.pss_cut (ps_if (pt_not (pt_val (pe_call G_same r_same rfl T.g_same T.k_same b_same .nil pass0 (pa_cons (pe_lst (pa_cons (pe_call G_name r_name rfl T.g_name T.k_name b_name .nil pass0 (pa_cons (pv 3) pa_nil)) (pa_cons (pe_callK0 G_name r_name rfl T.g_name T.k_name kb_name pass0 (pk_cons (pv 4) pk_nil)) (pa_cons (pe_call G_name r_name rfl T.g_name T.k_name b_name .nil pass0 (pa_cons pe_str pa_nil)) (pa_cons (pe_call G_name r_name rfl T.g_name T.k_name b_name .nil pass0 (pa_cons pe_str pa_nil)) pa_nil))))) (pa_cons (pe_lst (pa_cons pe_bl (pa_cons pe_bl (pa_cons pe_bl (pa_cons pe_bl pa_nil))))) pa_nil)))))
 (pss_one (ps_ret pe_bl))
 pss_nil)
 (Evl.pss_cut (ps_set (i := 5) sc_law.nd rfl (Or.inl rfl) (pe_call G_facts r_facts rfl T.g_facts T.k_facts b_facts .nil pass0 (pa_cons (pv 1) (pa_cons pe_bl pa_nil))))
 (Evl.pss_cut (ps_set (i := 5) sc_law.nd rfl (Or.inl rfl) (pe_ifExp (PW.pt (pw_or (pt_cmpR op_ne (pe_ix ix_tup (pv 5) pe_int (fun _ _ => rfl)) pe_int (nomark _)) (pw_or1 (pt_cmpR op_eq (pe_call G_pull r_pull rfl T.g_pull T.k_pull b_pull .nil pass0 (pa_cons (pv 1) (pa_cons pe_int pa_nil))) pe_int (nomark _))))) (pv 5) (pe_op op_catT (pe_slice sl_tup (pv 5) po_none (po_some pe_int)) (pe_tup (pa_cons pe_int (pa_cons pe_non pa_nil))))))
 (Evl.pss_cut (ps_set (i := 6) sc_law.nd rfl (Or.inl rfl) (pe_call G_lunseen r_lunseen rfl T.g_lunseen T.k_lunseen b_lunseen .nil pass0 (pa_cons (pv 5) pa_nil)))
 (Evl.pss_cut (ps_set (i := 7) sc_law.nd rfl (Or.inl rfl) (pe_lst (pa_cons (pe_fld (pv 6) rfl) (pa_cons (pe_fld (pv 6) rfl) (pa_cons (pe_call G_pair r_pair rfl T.g_pair T.k_pair b_pair .nil pass0 (pa_cons (pe_fld (pv 6) rfl) pa_nil)) (pa_cons (pe_fld (pv 6) rfl) (pa_cons (pe_fld (pv 6) rfl) (pa_cons (pe_fld (pv 6) rfl) (pa_cons (pe_callTy (call_strO G_str T.s_str r_str b_str) (by rfl) T.u.str (by decide +kernel) (pa_cons (pv 6) pa_nil)) (pa_cons (pe_callB (call_reprO G_repr T.s_repr r_repr b_repr) (by rfl) T.repr (by decide +kernel) (pa_cons (pv 6) pa_nil)) (pa_cons (pe_prop (pv 6) T.u.ucl T.p_free G_free r_free b_free .nil pass0 rfl) pa_nil)))))))))))
 (Evl.pss_cut (ps_set (i := 8) sc_law.nd rfl (Or.inl rfl) (pe_call G_ftext r_ftext rfl T.g_ftext T.k_ftext b_ftext .nil pass0 (pa_cons (pv 5) pa_nil)))
 (Evl.pss_cut (ps_set (i := 9) sc_law.nd rfl (Or.inl rfl) (pe_and (pe_cmpR op_isN (pe_ix ix_tup (pv 5) pe_int (fun _ _ => rfl)) pe_non (nomark _)) (pe_and (pe_cmpR op_isN (pe_ix ix_tup (pv 5) pe_int (fun _ _ => rfl)) pe_non (nomark _)) (pe_one (pe_cmpR op_isN (pe_ix ix_tup (pv 5) pe_int (fun _ _ => rfl)) pe_non (nomark _))))))
 (Evl.pss_cut (ps_if (pt_not (pt_val (pe_call G_same r_same rfl T.g_same T.k_same b_same .nil pass0 (pa_cons (pv 7) (pa_cons (pe_op op_cat (pe_callTy call_list_of (by rfl) T.list (by decide +kernel) (pa_cons (pv 5) pa_nil)) (pe_lst (pa_cons (pv 8) (pa_cons (pv 8) (pa_cons (pe_op op_add_str (pe_op op_add_str pe_str (pv 8)) pe_str) (pa_cons (pv 9) pa_nil)))))) pa_nil)))))
 (pss_one (ps_ret pe_bl))
 pss_nil)
 (Evl.pss_cut (ps_set (i := 10) sc_law.nd rfl (Or.inl rfl) (pe_call G_facts r_facts rfl T.g_facts T.k_facts b_facts .nil pass0 (pa_cons (pv 1) (pa_cons pe_bl pa_nil))))
 (pss_one (ps_if (pt_not (pt_val (pe_call G_same r_same rfl T.g_same T.k_same b_same .nil pass0 (pa_cons (pe_lst (pa_cons (pe_cmpR (op_eqO G_eq T.s_eq r_eq b_eq) (pv 6) (pe_call G_lunseen r_lunseen rfl T.g_lunseen T.k_lunseen b_lunseen .nil pass0 (pa_cons (pv 10) pa_nil)) (nomark _)) (pa_cons (pe_cmpR (op_neO G_eq T.s_eq T.ne T.mro r_ne b_eq) (pv 6) (pe_call G_lunseen r_lunseen rfl T.g_lunseen T.k_lunseen b_lunseen .nil pass0 (pa_cons (pv 10) pa_nil)) (nomark _)) (pa_cons (pe_cmpR (op_eqO G_eq T.s_eq r_eq b_eq) (pv 6) (pv 8) (nomark _)) pa_nil)))) (pa_cons (pe_lst (pa_cons (pe_cmpR (op_eqD (hu64 hr)) (pv 5) (pv 10) (nomark _)) (pa_cons (pe_cmpR (op_neD (hu64 hr)) (pv 5) (pv 10) (nomark _)) (pa_cons pe_bl pa_nil)))) pa_nil)))))
 (pss_one (ps_ret pe_bl))
 pss_nil))))))))))))))
 (Evl.pss_cut (ps_set (i := 11) sc_law.nd rfl (Or.inl rfl) (pe_makeK0 M_Unseen G_Unseen r_Unseen rfl T.u.g_Unseen kc_Unseen passL (pk_cons pe_str (pk_cons (pe_un un_neg pe_int) (pk_cons pe_int pk_nil)))))
 (pss_one (ps_ret (pe_and (pe_cmpR (op_eqO G_eq T.s_eq r_eq b_eq) (pe_make0 M_Unseen G_Unseen r_Unseen rfl T.u.g_Unseen b1_Unseen.2 b1_Unseen.1 passL) (pe_make M_Unseen G_Unseen r_Unseen rfl T.u.g_Unseen b2_Unseen.2 b2_Unseen.1 passL (pa_cons pe_int pa_nil)) (nomark _)) (pe_and (pe_cmpR op_eq (pe_fld (pe_make M_Unseen G_Unseen r_Unseen rfl T.u.g_Unseen b2_Unseen.2 b2_Unseen.1 passL (pa_cons pe_int pa_nil)) rfl) pe_str (nomark _)) (pe_and (pe_cmpR op_eq (pe_fld (pv 11) rfl) pe_str (nomark _)) (pe_one (pe_cmpR (op_eqD (hu64 hr)) (pe_call G_pair r_pair rfl T.g_pair T.k_pair b_pair .nil pass0 (pa_cons (pe_fld (pv 11) rfl) pa_nil)) (pe_tup (pa_cons (pe_un un_neg pe_int) (pa_cons pe_int pa_nil))) (nomark _))))))))))), ?_⟩
    refine ⟨_, rfl, a, ns, rfl, hS, fun b H1 nb s1 hb => ?_⟩
    refine ⟨fun σ' H' => ∃ c2 c3 c4 c5 c6 c7 c8 c9 c10 : Option V, σ' = [some (.ref a), some (.ref b), c2, c3, c4, c5, c6, c7, c8, c9, c10, none], ?_, ?_⟩
    · refine ⟨3, rfl, by decide, by decide, ?_⟩
      refine for_range (lo := 0) (n := 3) (fun i σ' H' => ∃ c2 c3 c4 c5 c6 c7 c8 c9 c10 : Option V, σ' = [some (.ref a), some (.ref b), c2, c3, c4, c5, c6, c7, c8, c9, c10, none] ∧ Bag H' b) ⟨none, none, none, none, none, none, none, none, none, rfl, hb⟩ ?_ (fun σ' H' ⟨c2, c3, c4, c5, c6, c7, c8, c9, c10, e, _⟩ => ⟨c2, c3, c4, c5, c6, c7, c8, c9, c10, e⟩)
      rintro i σ' H2 hi ⟨c2, c3, c4, c5, c6, c7, c8, c9, c10, rfl, hb2⟩
      clear hb s1
      -- a name
      refine ⟨fun σ' H' => ∃ x : Str, σ' = [some (.ref a), some (.ref b), some (.int (0 + i)), some (.str x), c4, c5, c6, c7, c8, c9, c10, none] ∧ isNameS x = true ∧ SeqAt.shaped (.str x) = true ∧ x.length ≤ 6 ∧ Bag H' b, ?_, ?_⟩
      · exact ⟨_, rfl, b, rfl, hb2, fun x H' h1 h2 h3 _ hb' => ⟨x, rfl, h1, h2, h3, hb'⟩⟩
      clear hb2 H2
      rintro σ' H2 ⟨x, rfl, nx, sx, lx, hb2⟩
      -- odd
      refine ⟨fun σ' H' => ∃ (v : V) (d : PyData), σ' = [some (.ref a), some (.ref b), some (.int (0 + i)), some (.str x), some v, c5, c6, c7, c8, c9, c10, none] ∧ Dp K H' v d ∧ SeqAt.shaped d = true ∧ (∀ z, d = .str z → z.length ≤ 1000) ∧ isNameD d = false ∧ Bag H' b, ?_, ?_⟩
      · have l1 : ("A" : Str).length = 1 := by decide +kernel
        have l2 : ("1" : Str).length = 1 := by decide +kernel
        have l3 : (" " : Str).length = 1 := by decide +kernel
        have l4 : ("_" : Str).length = 1 := by decide +kernel
        refine ⟨_, rfl, _, rfl, _, _, rfl, rfl, szle (by omega), _, rfl, _, _, rfl, rfl, szle (by omega), _, rfl, _, _, rfl, rfl, szle (by omega), _, rfl, _, _, rfl, rfl, szle (by omega), ?_⟩
        refine ⟨_, rfl, (by show 1 ≤ sizeLine; decide), fun lq nq => ⟨(by show 13 ≤ sizeLine; decide), fun l nl => ?_⟩⟩
        have v1 := Same.new (o := .lst [.str x]) nq
        have v2 := Same.new (o := .lst [.str "fn", .str "let", .str "slope", .str "", .str (x ++ "A"), .str (x ++ "1"), .str (x ++ " "), .str "abcdefg", .str (x ++ "_"), .non, .int 7, .bl true, .ref lq]) nl
        refine ⟨b, l, _, rfl, hb2.same (v1.trans v2), SqL.of upd_same, lst_ne (o := .lst []) (hb2.same v1) nl, (by show 0 < 13; decide), (by show 13 < 1000; decide), fun j v o hv hb3 => ?_⟩
        have hj : j < 13 := (List.getElem?_eq_some_iff.mp hv).1
        have key : ∃ d : PyData, Dp K (upd (upd (upd H2 lq (.lst [.str x])) l (.lst [.str "fn", .str "let", .str "slope", .str "", .str (x ++ "A"), .str (x ++ "1"), .str (x ++ " "), .str "abcdefg", .str (x ++ "_"), .non, .int 7, .bl true, .ref lq])) b o) v d ∧ SeqAt.shaped d = true ∧ (∀ z, d = .str z → z.length ≤ 1000) ∧ isNameD d = false := by
          match j, hj, hv with
          | 0, _, hv => cases hv; exact ⟨_, .str _, by decide +kernel, fun z e => by cases e; decide +kernel, by decide +kernel⟩
          | 1, _, hv => cases hv; exact ⟨_, .str _, by decide +kernel, fun z e => by cases e; decide +kernel, by decide +kernel⟩
          | 2, _, hv => cases hv; exact ⟨_, .str _, by decide +kernel, fun z e => by cases e; decide +kernel, by decide +kernel⟩
          | 3, _, hv => cases hv; exact ⟨_, .str _, by decide +kernel, fun z e => by cases e; decide +kernel, by decide +kernel⟩
          | 4, _, hv => cases hv; exact ⟨_, .str _, shaped_app sx (by decide +kernel), fun z e => by cases e; rw [Str.length_append]; omega, not_name (by decide +kernel)⟩
          | 5, _, hv => cases hv; exact ⟨_, .str _, shaped_app sx (by decide +kernel), fun z e => by cases e; rw [Str.length_append]; omega, not_name (by decide +kernel)⟩
          | 6, _, hv => cases hv; exact ⟨_, .str _, shaped_app sx (by decide +kernel), fun z e => by cases e; rw [Str.length_append]; omega, not_name (by decide +kernel)⟩
          | 7, _, hv => cases hv; exact ⟨_, .str _, by decide +kernel, fun z e => by cases e; decide +kernel, by decide +kernel⟩
          | 8, _, hv => cases hv; exact ⟨_, .str _, shaped_app sx (by decide +kernel), fun z e => by cases e; rw [Str.length_append]; omega, not_name (by decide +kernel)⟩
          | 9, _, hv => cases hv; exact ⟨_, .non, by decide +kernel, (fun z e => by cases e), rfl⟩
          | 10, _, hv => cases hv; exact ⟨_, .int _, by decide +kernel, (fun z e => by cases e), rfl⟩
          | 11, _, hv => cases hv; exact ⟨_, .bl _, by decide +kernel, (fun z e => by cases e), rfl⟩
          | 12, _, hv =>
            cases hv
            refine ⟨_, .lst (sqL_upd (lst_ne (o := .lst []) hb2 nq) (SqL.of (v2 _ _ upd_same))) (.cons (.str _) .nil), ?_, (fun z e => by cases e), rfl⟩
            have h1 := strOk_of sx
            unfold SeqAt.shaped
            rw [show (PyData.list [.str x]).canLay0 = (PyData.strOk x && true) from rfl, h1]
            rfl
        obtain ⟨d, k1, k2, k3, k4⟩ := key
        exact ⟨v, d, rfl, k1, k2, k3, k4, hb3⟩
      clear hb2 H2
      rintro σ' H2 ⟨v, d, rfl, dv, sd, ld, nd, hb2⟩
      -- what names are
      refine ⟨fun σ' H' => σ' = [some (.ref a), some (.ref b), some (.int (0 + i)), some (.str x), some v, c5, c6, c7, c8, c9, c10, none] ∧ Bag H' b, ?_, ?_⟩
      · refine ⟨_, rfl, _, .str x, rfl, .str x, sx, fun z e => by cases e; omega, fun H3 s3 => ?_⟩
        refine ⟨_, rfl, rfl, v, d, rfl, dp_mono s3 _ _ dv, sd, ld, fun H4 s4 => ?_⟩
        refine ⟨_, .str "integr", rfl, .str _, by decide +kernel, fun z e => by cases e; decide +kernel, fun H5 s5 => ?_⟩
        refine ⟨_, .str "lets", rfl, .str _, by decide +kernel, fun z e => by cases e; decide +kernel, fun H6 s6 => ⟨(by show 4 ≤ sizeLine; decide), fun p np => ?_⟩⟩
        refine ⟨(by show 4 ≤ sizeLine; decide), fun q nq => ?_⟩
        have e2 : isNameD (.str "integr") = true := by decide +kernel
        have e3 : isNameD (.str "lets") = true := by decide +kernel
        have da : DpAll K (upd (upd H6 p (.lst [.bl (isNameD (.str x)), .bl (isNameD d), .bl (isNameD (.str "integr")), .bl (isNameD (.str "lets"))])) q (.lst [.bl true, .bl false, .bl true, .bl true])) [.bl (isNameD (.str x)), .bl (isNameD d), .bl (isNameD (.str "integr")), .bl (isNameD (.str "lets"))] [.bool true, .bool false, .bool true, .bool true] := by
          rw [show isNameD (.str x) = true from nx, nd, e2, e3]
          exact .cons (.bl _) (.cons (.bl _) (.cons (.bl _) (.cons (.bl _) .nil)))
        refine ⟨_, _, .list [.bool true, .bool false, .bool true, .bool true], rfl, .lst (SqL.of ((Same.new nq) _ _ upd_same)) da, .lst (SqL.of upd_same) (.cons (.bl _) (.cons (.bl _) (.cons (.bl _) (.cons (.bl _) .nil)))), rfl, fun H7 s7 => ?_⟩
        exact ⟨_, rfl, rfl, hb2.same (s3.trans (s4.trans (s5.trans (s6.trans ((Same.new np).trans ((Same.new nq).trans s7))))))⟩
      clear hb2 dv sd ld nd H2
      rintro σ' H2 ⟨rfl, hb2⟩
      -- facts
      refine ⟨fun σ' H' => ∃ (t : Addr) (f : Fact), σ' = [some (.ref a), some (.ref b), some (.int (0 + i)), some (.str x), some v, some (.ref t), c6, c7, c8, c9, c10, none] ∧ FactIn f ∧ FactAt H' t f ∧ Bag H' b, ?_, ?_⟩
      · exact ⟨_, rfl, b, rfl, hb2, fun t f H' h1 h2 h3 _ hb' => ⟨t, f, rfl, h1, h3, hb'⟩⟩
      clear hb2 H2
      rintro σ' H2 ⟨t, f, rfl, fin, fat, hb2⟩
      refine ⟨fun σ' H' => ∃ (t : Addr) (f : Fact), σ' = [some (.ref a), some (.ref b), some (.int (0 + i)), some (.str x), some v, some (.ref t), c6, c7, c8, c9, c10, none] ∧ FactIn f ∧ FactAt H' t f ∧ Bag H' b, ?_, ?_⟩
      · obtain ⟨cp, ht, hcp⟩ := fat
        have sc : scal (vI f.de) (.int 2) = true := by cases f.de <;> rfl
        refine ⟨_, rfl, t, _, 3, _, rfl, rfl, SqT.of ht, rfl, sc, _, rfl, ?_⟩
        by_cases c : f.de = some 2
        · refine itF (by rw [c]; rfl) ?_
          refine ⟨_, rfl, b, 2, rfl, hb2, by decide, by decide, fun e o e0 e1 hb3 => ⟨rfl, _, rfl, ?_⟩⟩
          have ht3 := tup_pull (o := o) ht hb2
          have hcp3 := tup_pull (o := o) hcp hb2
          by_cases ce : e = 0
          · refine itT (decide_eq_true (by rw [ce])) ?_
            exact ⟨_, rfl, t, f, rfl, fin, ⟨cp, ht3, hcp3⟩, hb3⟩
          · refine itF (decide_eq_false fun z => ce (V.int.inj z)) ?_
            refine ⟨_, rfl, _, rfl, t, _, rfl, SqT.of ht3, (by show ¬ (0 = 0 ∧ 3 = 5); decide), fun p np => ?_⟩
            have hp3 : cutV [V.int f.ar, vS f.mi, .ref cp, vI f.de, vS f.sw] none (some 3) = [V.int f.ar, vS f.mi, .ref cp] := rfl
            rw [hp3]
            have v1 := Same.new (o := .tup [V.int f.ar, vS f.mi, .ref cp]) np
            refine ⟨sz2, fun q nq => ?_⟩
            have v2 := Same.new (o := .tup [.int 3, .non]) nq
            refine ⟨p, q, _, _, rfl, rfl, SqT.of (v2 _ _ upd_same), SqT.of upd_same, (fun z => nomatch z), (by show 3 + 2 ≤ sizeLine; decide), (fun z => nomatch z), fun _ r nr => ?_⟩
            have v3 := (v1.trans v2).trans (Same.new (o := .tup ([V.int f.ar, vS f.mi, .ref cp] ++ [.int 3, .non])) nr)
            have har : f.ar = 1 := by
              rcases fin.ok.de with z | z
              · rw [c] at z
                cases z
              · exact z.1
            have hsw : f.sw = none := by
              rcases fin.ok.sw with z | z
              · exact z
              · rw [har] at z
                exact absurd z.1 (by decide)
            refine ⟨r, ⟨f.ar, f.mi, f.n, f.d, some 3, none⟩, rfl, ⟨⟨fin.ok.ar, fin.ok.mi, fin.ok.c0, .inr ⟨har, .inr (.inr (.inr rfl))⟩, .inl rfl, fin.ok.lo, fin.ok.n60, fin.ok.d60⟩, fin.inc, fin.c1⟩, ⟨cp, upd_same, v3 _ _ hcp3⟩, hb3.same v3⟩
        · refine itT (by cases hd : f.de with
            | none => rfl
            | some g =>
              have : g ≠ 2 := fun z => c (by rw [hd, z])
              show (!decide (V.int g = V.int 2)) = true
              rw [decide_eq_false fun z => this (V.int.inj z)]
              rfl) ?_
          exact ⟨_, rfl, t, f, rfl, fin, ⟨cp, ht, hcp⟩, hb2⟩
      clear fat fin hb2 H2
      clear t f
      rintro σ' H2 ⟨t, f, rfl, fin, fat, hb2⟩
      -- the unseen function
      refine ⟨fun σ' H' => ∃ (u : Addr), σ' = [some (.ref a), some (.ref b), some (.int (0 + i)), some (.str x), some v, some (.ref t), some (.ref u), c7, c8, c9, c10, none] ∧ FactAt H' t f ∧ UnsAt CU C H' u f ∧ Bag H' b, ?_, ?_⟩
      · exact ⟨_, rfl, t, f, rfl, fat, fin.ok, fun p H' np s' hp => ⟨p, rfl, fat.mono s', hp, hb2.same s'⟩⟩
      clear fat hb2 H2
      rintro σ' H2 ⟨u, rfl, fat, hu, hb2⟩
      have okf := fin.ok
      have lent : (factText f).length ≤ 1000 := text_len okf
      -- what it tells
      refine ⟨fun σ' H' => ∃ (fl : Addr) (cq : Addr), σ' = [some (.ref a), some (.ref b), some (.int (0 + i)), some (.str x), some v, some (.ref t), some (.ref u), some (.ref fl), c8, c9, c10, none] ∧ FactAt H' t f ∧ UnsAt CU C H' u f ∧ Bag H' b ∧ H' cq = some (.tup [.int f.n, .int f.d]) ∧ H' fl = some (.lst [.int f.ar, vS f.mi, .ref cq, vI f.de, vS f.sw, .str (factText f), .str (factText f), .str (Str.empty ++ "Unseen(" ++ factText f ++ ")"), .bl (freeOf f)]), ?_, ?_⟩
      · obtain ⟨du, pu, gu, ru⟩ := hu
        refine ⟨_, rfl, u, CU, du, _, _, rfl, gu, T.u.ucl, T.u.uA, unsF_arity _ _, _, rfl, u, CU, du, _, _, rfl, gu, T.u.ucl, T.u.uM, unsF_mirror _ _, ?_⟩
        refine ⟨_, rfl, u, CU, du, _, _, rfl, gu, T.u.ucl, T.u.uC, unsF_centre _ _, pu, _, _, rfl, ru, fun cq H3 nq s3 hq => ?_⟩
        have gu3 := s3 _ _ gu
        have hu3 : UnsAt CU C H3 u f := ⟨du, pu, gu3, ru.mono s3⟩
        refine ⟨_, rfl, u, CU, du, _, _, rfl, gu3, T.u.ucl, T.u.uD, unsF_degree _ _, _, rfl, u, CU, du, _, _, rfl, gu3, T.u.ucl, T.u.uS, unsF_swap _ _, _, rfl, u, CU, du, _, _, rfl, gu3, T.u.ucl, T.u.uT, unsF_text _ _, ?_⟩
        refine ⟨_, rfl, _, rfl, u, du, _, rfl, gu3, u, f, rfl, hu3, _, rfl, _, rfl, _, rfl, u, du, _, rfl, gu3, u, f, rfl, hu3, lent, _, rfl, ?_⟩
        refine ⟨_, rfl, u, du, _, rfl, gu3, u, f, rfl, hu3, (by show 9 ≤ sizeLine; decide), fun fl nf => ?_⟩
        have v1 := s3.trans (Same.new (o := .lst [.int f.ar, vS f.mi, .ref cq, vI f.de, vS f.sw, .str (factText f), .str (factText f), .str (Str.empty ++ "Unseen(" ++ factText f ++ ")"), .bl (freeOf f)]) nf)
        exact ⟨fl, cq, rfl, fat.mono v1, ⟨du, pu, v1 _ _ gu, ru.mono v1⟩, hb2.same v1, (Same.new nf) _ _ hq, upd_same⟩
      clear fat hu hb2 H2
      rintro σ' H2 ⟨fl, cq, rfl, fat, hu, hb2, hcq, hfl⟩
      -- its text
      refine ⟨fun σ' H' => σ' = [some (.ref a), some (.ref b), some (.int (0 + i)), some (.str x), some v, some (.ref t), some (.ref u), some (.ref fl), some (.str (factText f)), c9, c10, none] ∧ Same H2 H', ?_, ?_⟩
      · exact ⟨_, rfl, t, f, rfl, fat, okf, fun H' s' => ⟨rfl, s'⟩⟩
      rintro σ' H3 ⟨rfl, s3⟩
      have fat3 := fat.mono s3
      refine ⟨fun σ' H' => σ' = [some (.ref a), some (.ref b), some (.int (0 + i)), some (.str x), some v, some (.ref t), some (.ref u), some (.ref fl), some (.str (factText f)), some (.bl (freeOf f)), c10, none] ∧ Same H2 H', ?_, ?_⟩
      · obtain ⟨cp, ht, hcp⟩ := fat3
        have done : ∀ w : Bool, w = freeOf f → ([some (.ref a), some (.ref b), some (.int (0 + i)), some (.str x), some v, some (.ref t), some (.ref u), some (.ref fl), some (.str (factText f)), some (.bl w), c10, none] : L2.St) = [some (.ref a), some (.ref b), some (.int (0 + i)), some (.str x), some v, some (.ref t), some (.ref u), some (.ref fl), some (.str (factText f)), some (.bl (freeOf f)), c10, none] := fun w e => by rw [e]
        refine ⟨_, rfl, t, _, 1, _, rfl, rfl, SqT.of ht, rfl, rfl, _, rfl, ?_⟩
        cases h1 : f.mi with
        | some m => exact ⟨done _ (by unfold freeOf; rw [h1]; rfl), s3⟩
        | none =>
          refine ⟨_, rfl, t, _, 3, _, rfl, rfl, SqT.of ht, rfl, rfl, _, rfl, ?_⟩
          cases h2 : f.de with
          | some g => exact ⟨done _ (by unfold freeOf; rw [h1, h2]; rfl), s3⟩
          | none =>
            refine ⟨_, rfl, t, _, 4, _, rfl, rfl, SqT.of ht, rfl, rfl, ?_⟩
            exact ⟨done _ (by unfold freeOf; rw [h1, h2]; cases f.sw <;> rfl), s3⟩
      clear s3 fat3 H3
      rintro σ' H3 ⟨rfl, s3⟩
      have fat3 := fat.mono s3
      have l1 : ("Unseen(" : Str).length = 7 := by decide +kernel
      have l2 : (")" : Str).length = 1 := by decide +kernel
      refine ⟨fun σ' H' => σ' = [some (.ref a), some (.ref b), some (.int (0 + i)), some (.str x), some v, some (.ref t), some (.ref u), some (.ref fl), some (.str (factText f)), some (.bl (freeOf f)), c10, none] ∧ Same H3 H', ?_, ?_⟩
      · obtain ⟨cp, ht, hcp⟩ := fat3
        refine ⟨_, rfl, _, rfl, t, _, rfl, .inr (SqT.of ht), fun l nl => ?_⟩
        have v1 := Same.new (o := .lst [.int f.ar, vS f.mi, .ref cp, vI f.de, vS f.sw]) nl
        refine ⟨_, rfl, _, rfl, _, rfl, _, _, rfl, rfl, szle (by omega), _, _, rfl, rfl, szle (by rw [Str.length_append]; omega), _, rfl, (by show 4 ≤ sizeLine; decide), fun m nm => ?_⟩
        have v2 := Same.new (o := .lst [.str (factText f), .str (factText f), .str ("Unseen(" ++ factText f ++ ")"), .bl (freeOf f)]) nm
        refine ⟨l, m, _, _, rfl, rfl, v2 _ _ upd_same, upd_same, (by show 5 + 4 ≤ sizeLine; decide), fun r nr => ?_⟩
        have v3 := (v1.trans v2).trans (Same.new (o := .lst ([.int f.ar, vS f.mi, .ref cp, vI f.de, vS f.sw] ++ [.str (factText f), .str (factText f), .str ("Unseen(" ++ factText f ++ ")"), .bl (freeOf f)])) nr)
        refine ⟨_, _, tellD f, rfl, ?_, ?_, tell_ok f, fun H' s' => ⟨_, rfl, rfl, v3.trans s'⟩⟩
        · refine .lst (SqL.of (v3 _ _ (s3 _ _ hfl))) ?_
          rw [empty_app]
          exact .cons (.int _) (.cons (dp_vS _) (.cons (dp_pair (v3 _ _ (s3 _ _ hcq))) (.cons (dp_vI _) (.cons (dp_vS _) (.cons (.str _) (.cons (.str _) (.cons (.str _) (.cons (.bl _) .nil))))))))
        · exact .lst (SqL.of upd_same) (.cons (.int _) (.cons (dp_vS _) (.cons (dp_pair (v3 _ _ hcp)) (.cons (dp_vI _) (.cons (dp_vS _) (.cons (.str _) (.cons (.str _) (.cons (.str _) (.cons (.bl _) .nil)))))))))
      rintro σ' H4 ⟨rfl, s4⟩
      have s34 := s3.trans s4
      have fat4 := fat.mono s34
      have hu4 := hu.mono s34
      have hb4 := hb2.same s34
      clear fat hu hb2 hcq hfl s3 s4 s34 fat3 H2 H3
      -- other facts
      refine ⟨fun σ' H' => ∃ (t' : Addr) (f' : Fact), σ' = [some (.ref a), some (.ref b), some (.int (0 + i)), some (.str x), some v, some (.ref t), some (.ref u), some (.ref fl), some (.str (factText f)), some (.bl (freeOf f)), some (.ref t'), none] ∧ FactIn f' ∧ FactAt H' t' f' ∧ FactAt H' t f ∧ UnsAt CU C H' u f ∧ Bag H' b, ?_, ?_⟩
      · refine ⟨_, rfl, b, rfl, hb4, fun t' f' H' h1 h2 h3 ex hb' => ⟨t', f', rfl, h1, h3, ?_, ?_, hb'⟩⟩
        · obtain ⟨ys, hy⟩ := hb4.lst
          obtain ⟨cp, ht, hcp⟩ := fat4
          exact ⟨cp, ex _ _ (fun e => by rw [e, hy] at ht; cases ht) ht, ex _ _ (fun e => by rw [e, hy] at hcp; cases hcp) hcp⟩
        · obtain ⟨ys, hy⟩ := hb4.lst
          obtain ⟨du, pu, gu, dr, ru⟩ := hu4
          exact ⟨du, pu, ex _ _ (fun e => by rw [e, hy] at gu; cases gu) gu, dr, ex _ _ (fun e => by rw [e, hy] at ru; cases ru) ru⟩
      clear fat4 hu4 hb4 H4
      rintro σ' H2 ⟨t', f', rfl, fin', fat', fat, hu, hb2⟩
      refine ⟨_, rfl, _, rfl, t', f', rfl, fat', fin'.ok, fun p H3 np s3 hp => ?_⟩
      obtain ⟨dp, pp, gp, rp⟩ := hp
      obtain ⟨du, pu, gu, ru⟩ := hu.mono s3
      refine ⟨u, du, _, .ref CU, rfl, gu, T.tyu _ _ _ _ gp, nf_self, u, f, _, rfl, ⟨du, pu, gu, ru⟩, .inl ⟨p, f', rfl, ⟨dp, pp, gp, rp⟩, _, rfl, ?_⟩⟩
      refine ⟨_, rfl, _, rfl, t', f', rfl, fat'.mono s3, fin'.ok, fun p2 H4 np2 s4 hp2 => ?_⟩
      have hu4 := UnsAt.mono (C := CU) (CR := C) (f := f) ⟨du, pu, gu, ru⟩ s4
      clear gp rp gu ru
      obtain ⟨dp, pp, gp, rp⟩ := hp2
      obtain ⟨du, pu, gu, ru⟩ := hu4
      refine ⟨u, du, _, .ref CU, rfl, gu, T.tyu _ _ _ _ gp, nf_self, u, f, _, rfl, ⟨du, pu, gu, ru⟩, .inl ⟨p2, f', rfl, ⟨dp, pp, gp, rp⟩, _, rfl, ?_⟩⟩
      refine ⟨_, rfl, _, rfl, u, du, _, .type "str", rfl, gu, .base (.str _), T.nfS, u, f, _, rfl, ⟨du, pu, gu, ru⟩, .inr ⟨_, .base (.str _), T.ktS, _, rfl, (by show 3 ≤ sizeLine; decide), fun l nl => ?_⟩⟩
      have s5 := (s3.trans s4).trans (Same.new (o := .lst [.bl (decide (factText f = factText f')), .bl (!decide (factText f = factText f')), .bl false]) nl)
      have sh1 := sh_fact okf
      have sh2 := sh_fact fin'.ok
      refine ⟨_, rfl, _, rfl, factD f, factD f', dp_fact (fat.mono s5), dp_fact (fat'.mono s5), sh1, sh2, _, rfl, _, rfl, factD f, factD f', dp_fact (fat.mono s5), dp_fact (fat'.mono s5), sh1, sh2, (by show 3 ≤ sizeLine; decide), fun m nm => ?_⟩
      have ee := text_eqv fin fin'
      have da : ∀ (e : Bool) (Hz : Hp), DpAll K Hz [.bl e, .bl (!e), .bl false] [.bool e, .bool (!e), .bool false] := fun e Hz => .cons (.bl _) (.cons (.bl _) (.cons (.bl _) .nil))
      refine ⟨_, _, .list [.bool (PyData.eqv (factD f) (factD f')), .bool (!PyData.eqv (factD f) (factD f')), .bool false], rfl, .lst (SqL.of ((Same.new nm) _ _ upd_same)) ?_, .lst (SqL.of upd_same) (da _ _), rfl, fun H6 s6 => ?_⟩
      · rw [ee]
        exact da _ _
      · exact ⟨_, rfl, _, _, _, _, _, _, _, _, _, rfl, hb2.same (s5.trans ((Same.new nm).trans s6))⟩
    rintro σ' H2 ⟨c2, c3, c4, c5, c6, c7, c8, c9, c10, rfl⟩
    -- the last ones
    refine ⟨fun σ' H' => ∃ u : Addr, σ' = [some (.ref a), some (.ref b), c2, c3, c4, c5, c6, c7, c8, c9, c10, some (.ref u)] ∧ UnsAt CU C H' u ⟨1, some "odd", -4, 1, some 3, none⟩, ?_, ?_⟩
    · refine ⟨_, rfl, rfl, rfl, fun x dx nx nd ne => ?_⟩
      exact ⟨x, dx, _, .i (-4), ⟨1, some "odd", -4, 1, some 3, none⟩, rfl, upd_same, .int _, rfl, rfl, rfl, okW, fun p' H' ex hx hr => ⟨rfl, x, rfl, dx, p', hx, hr⟩⟩
    rintro σ' H3 ⟨u, rfl, hu⟩
    intro x dx nx nd ne
    refine ⟨x, dx, _, .i 0, ⟨1, none, 0, 1, none, none⟩, rfl, upd_same, .int _, rfl, rfl, rfl, ok1, fun p1 H4 ex1 hx1 hr1 => ⟨rfl, ?_⟩⟩
    have s1 := exA_same nx nd ex1
    intro y dy ny nd2 ne2
    refine ⟨y, dy, _, .i 0, ⟨1, none, 0, 1, none, none⟩, rfl, upd_same, .int _, rfl, rfl, rfl, ok1, fun p2 H5 ex2 hx2 hr2 => ⟨rfl, ?_⟩⟩
    have s2 := exA_same ny nd2 ex2
    refine ⟨x, dx, _, .ref CU, rfl, s2 _ _ hx1, T.tyu _ _ _ _ hx2, nf_self, x, _, _, rfl, ⟨dx, p1, s2 _ _ hx1, hr1.mono s2⟩, .inl ⟨y, _, rfl, ⟨dy, p2, hx2, hr2⟩, _, rfl, _, rfl, ?_⟩⟩
    rw [decide_eq_true rfl]
    intro z dz nz nd3 ne3
    refine ⟨z, dz, _, .i 0, ⟨2, none, 0, 1, none, none⟩, rfl, upd_same, .int _, rfl, rfl, rfl, ok2, fun p3 H6 ex3 hx3 hr3 => ⟨rfl, ?_⟩⟩
    have s3 := exA_same nz nd3 ex3
    refine ⟨z, CU, dz, _, _, rfl, hx3, T.u.ucl, T.u.uT, unsF_text _ _, rfl, _, rfl, ?_⟩
    refine itT (by decide +kernel) ?_
    obtain ⟨du, pu, gu, ru⟩ := hu.mono ((s1.trans s2).trans s3)
    refine ⟨_, rfl, u, CU, du, _, _, rfl, gu, T.u.ucl, T.u.uT, unsF_text _ _, rfl, _, rfl, ?_⟩
    refine itT (by decide +kernel) ?_
    refine ⟨_, rfl, u, CU, du, _, _, rfl, gu, T.u.ucl, T.u.uC, unsF_centre _ _, pu, _, _, rfl, ru, fun q H7 nq s7 hq => ?_⟩
    refine ⟨_, rfl, sz2, fun r nr => ⟨pairD (-4, 1), pairD (-4, 1), dp_pair ((Same.new nr) _ _ hq), dp_pair upd_same, sh_pair _, sh_pair _, ?_⟩⟩
    rw [show PyData.eqv (pairD (-4, 1)) (pairD (-4, 1)) = true from rfl]
    exact k _
end
end Mine
namespace Mine
open PySem PySem.Spec PyProof.Rows L2
theorem all_mk {l : PySem.W.OpenLaw} {w : World} {K : PySem.W.Frag} {h : Heap} {mg : Str → Option Value} {fa : Addr} (X : K.In h) (G : h.Ns mainGlobals mg) (hfa : mg "law" = some (.ref fa))
    {fL : Addr} {ocL dcL pmL ctL kVL cdL : Value} {odL anL : Option Addr} {slL : Array (Option Value)} {C CE TR : Addr} {t0 : Tok} {nT : Nat} {odT0 : Option Addr} {slT0 : Array (Option Value)} {fWh : Addr} {ocWh dcWh pmWh ctWh kVWh cdWh : Value} {odWh anWh : Option Addr} {slWh : Array (Option Value)} {fNu : Addr} {ocNu dcNu pmNu ctNu kVNu cdNu : Value} {odNu anNu : Option Addr} {slNu : Array (Option Value)} {fRo : Addr} {ocRo dcRo pmRo ctRo kVRo cdRo : Value} {odRo anRo : Option Addr} {slRo : Array (Option Value)} {fE : Addr} {ocE dcE pmE ctE kVE cdE : Value} {odE anE : Option Addr} {slE : Array (Option Value)} {fR : Addr} {ocR dcR pmR ctR kVR cdR : Value} {odR anR : Option Addr} {slR : Array (Option Value)} {nmCE qCE : Str} {NCE : Addr} {bsCE bmCE : List Value} {snCE : List Str} {subCE : List Value} {abCE : Bool} {colCE : Option Bool} {ddCE : Option Addr} {m0CE m1CE m2CE m3CE m5CE : Option Value} {CU CF aW TU DU pFr : Addr} {tk tu tc w1 w2 w3 : Tok} {nU nW : Nat} {odU0 odW0 : Option Addr} {slU0 slW0 : Array (Option Value)} {rest : List Value} {fIF : Addr} {ocIF dcIF pmIF ctIF kVIF cdIF : Value} {odIF anIF : Option Addr} {slIF : Array (Option Value)} {nmCF qCF : Str} {NCF : Addr} {bsCF bmCF : List Value} {snCF : List Str} {subCF : List Value} {abCF : Bool} {colCF : Option Bool} {ddCF : Option Addr} {m0CF m1CF m2CF m3CF m5CF : Option Value} {fU : Addr} {ocU dcU pmU ctU cdU : Value} {odU anU : Option Addr} {slU : Array (Option Value)} {fQ : Addr} {ocQ dcQ pmQ ctQ kVQ cdQ : Value} {odQ anQ : Option Addr} {slQ : Array (Option Value)} {fSt : Addr} {ocSt dcSt pmSt ctSt kVSt cdSt : Value} {odSt anSt : Option Addr} {slSt : Array (Option Value)} {fRe : Addr} {ocRe dcRe pmRe ctRe kVRe cdRe : Value} {odRe anRe : Option Addr} {slRe : Array (Option Value)} {fFr : Addr} {ocFr dcFr pmFr ctFr kVFr cdFr : Value} {odFr anFr : Option Addr} {slFr : Array (Option Value)} {fRs : Addr} {ocRs dcRs pmRs ctRs kVRs cdRs : Value} {odRs anRs : Option Addr} {slRs : Array (Option Value)} {fDg : Addr} {ocDg dcDg pmDg ctDg kVDg cdDg : Value} {odDg anDg : Option Addr} {slDg : Array (Option Value)} {fNa : Addr} {ocNa dcNa pmNa ctNa kVNa cdNa : Value} {odNa anNa : Option Addr} {slNa : Array (Option Value)} {fBa : Addr} {ocBa dcBa pmBa ctBa kVBa cdBa : Value} {odBa anBa : Option Addr} {slBa : Array (Option Value)} {fP : Addr} {ocP dcP pmP ctP kVP cdP : Value} {odP anP : Option Addr} {slP : Array (Option Value)} {fOf : Addr} {ocOf dcOf pmOf ctOf kVOf cdOf : Value} {odOf anOf : Option Addr} {slOf : Array (Option Value)} {fSa : Addr} {ocSa dcSa pmSa ctSa kVSa cdSa : Value} {odSa anSa : Option Addr} {slSa : Array (Option Value)} {fLn : Addr} {ocLn dcLn pmLn ctLn kVLn cdLn : Value} {odLn anLn : Option Addr} {slLn : Array (Option Value)} {fLo : Addr} {ocLo dcLo pmLo ctLo kVLo cdLo : Value} {odLo anLo : Option Addr} {slLo : Array (Option Value)} {fPa : Addr} {ocPa dcPa pmPa ctPa kVPa cdPa : Value} {odPa anPa : Option Addr} {slPa : Array (Option Value)} {fLr : Addr} {ocLr dcLr pmLr ctLr kVLr cdLr : Value} {odLr anLr : Option Addr} {slLr : Array (Option Value)} {fPt : Addr} {ocPt dcPt pmPt ctPt kVPt cdPt : Value} {odPt anPt : Option Addr} {slPt : Array (Option Value)} {fFa : Addr} {ocFa dcFa pmFa ctFa kVFa cdFa : Value} {odFa anFa : Option Addr} {slFa : Array (Option Value)} {fLu : Addr} {ocLu dcLu pmLu ctLu kVLu cdLu : Value} {odLu anLu : Option Addr} {slLu : Array (Option Value)} {fFt : Addr} {ocFt dcFt pmFt ctFt kVFt cdFt : Value} {odFt anFt : Option Addr} {slFt : Array (Option Value)}
    (aL : PySem.W.nsIn K mainGlobals "law" = some (some (.ref fL)))
    (lL : K.lookup fL = some ⟨ocL, odL, .func (PySem.W.fnOf "law" "law" (defArgs s_law) (defBody s_law) (defScope s_law) .none kVL dcL pmL anL cdL ctL), slL⟩)
    (cL : PySem.W.codeIn K cdL "law" = true)
    (kL : PySem.W.keepIn K (.ref fL) = true)
    (aC : PySem.W.nsIn K mainGlobals "Ratio" = some (some (.ref C)))
    (aCE : PySem.W.nsIn K mainGlobals "InvalidNumber" = some (some (.ref CE)))
    (aWh : PySem.W.nsIn K mainGlobals "is_whole" = some (some (.ref fWh)))
    (lWh : K.lookup fWh = some ⟨ocWh, odWh, .func (PySem.W.fnOf "is_whole" "is_whole" (defArgs s_is_whole) (defBody s_is_whole) (defScope s_is_whole) .none kVWh dcWh pmWh anWh cdWh ctWh), slWh⟩)
    (cWh : PySem.W.codeIn K cdWh "is_whole" = true)
    (kWh : PySem.W.keepIn K (.ref fWh) = true)
    (aNu : PySem.W.nsIn K mainGlobals "is_number" = some (some (.ref fNu)))
    (lNu : K.lookup fNu = some ⟨ocNu, odNu, .func (PySem.W.fnOf "is_number" "is_number" (defArgs s_is_number) (defBody s_is_number) (defScope s_is_number) .none kVNu dcNu pmNu anNu cdNu ctNu), slNu⟩)
    (cNu : PySem.W.codeIn K cdNu "is_number" = true)
    (kNu : PySem.W.keepIn K (.ref fNu) = true)
    (aRo : PySem.W.nsIn K mainGlobals "ratio_of" = some (some (.ref fRo)))
    (lRo : K.lookup fRo = some ⟨ocRo, odRo, .func (PySem.W.fnOf "ratio_of" "ratio_of" (defArgs s_ratio_of) (defBody s_ratio_of) (defScope s_ratio_of) .none kVRo dcRo pmRo anRo cdRo ctRo), slRo⟩)
    (cRo : PySem.W.codeIn K cdRo "ratio_of" = true)
    (kRo : PySem.W.keepIn K (.ref fRo) = true)
    (aE : PySem.W.findIn K (.ref CE) "__init__" = some (some (.ref fE)))
    (lE : K.lookup fE = some ⟨ocE, odE, .func (PySem.W.fnOf "__init__" "InvalidNumber.__init__" (defArgs s_InvalidNumber_D_initD_) (defBody s_InvalidNumber_D_initD_) (defScope s_InvalidNumber_D_initD_) .none kVE dcE pmE anE cdE ctE), slE⟩)
    (cE : PySem.W.codeIn K cdE "InvalidNumber.__init__" = true)
    (kE : PySem.W.keepIn K (.ref fE) = true)
    (tE : PySem.W.typeIn K (.ref fE) = some (.type "function"))
    (aR : PySem.W.findIn K (.ref C) "__init__" = some (some (.ref fR)))
    (lR : K.lookup fR = some ⟨ocR, odR, .func (PySem.W.fnOf "__init__" "Ratio.__init__" (defArgs s_Ratio_D_initD_) (defBody s_Ratio_D_initD_) (defScope s_Ratio_D_initD_) (.ref TR) kVR dcR pmR anR cdR ctR), slR⟩)
    (cR : PySem.W.codeIn K cdR "Ratio.__init__" = true)
    (kR : PySem.W.keepIn K (.ref fR) = true)
    (iR : PySem.W.isFn K (.ref fR) = true)
    (lT0 : K.lookup TR = some ⟨.type "tuple", odT0, .seq #[.int 1 t0] nT, slT0⟩)
    (pgC : PySem.W.plainGet K C Str.empty = true)
    (hdC : PySem.W.hasDictIn K C = true)
    (poC : PySem.W.plainOver K C = true)
    (saC : PySem.W.findIn K (.ref C) "__setattr__" = some (some (.builtin "object.__setattr__")))
    (mkC : PySem.W.makesIn K C = true)
    (kcC : PySem.W.keepIn K (.ref C) = true)
    (haC : PySem.W.findIn K (.ref C) "__class__" = some (some (.builtin "object.__class__")))
    (hmC : PySem.W.mroIn K C (.type "object") = some true)
    (nC_top : PySem.W.findIn K (.ref C) "top" = some none)
    (nC_bottom : PySem.W.findIn K (.ref C) "bottom" = some none)
    (hn : PySem.W.specialIn K (.builtin "object.__class__") "__get__" = some (some (.builtin "getset_descriptor.__get__")))
    (htk : PySem.W.takesIn K (.builtin "object.__class__") = some true)
    (kd_NoneType : PySem.W.kitOne K (.type "NoneType") (.ref C) = some false)
    (kd_bool : PySem.W.kitOne K (.type "bool") (.ref C) = some false)
    (kd_int : PySem.W.kitOne K (.type "int") (.ref C) = some false)
    (kd_str : PySem.W.kitOne K (.type "str") (.ref C) = some false)
    (kd_list : PySem.W.kitOne K (.type "list") (.ref C) = some false)
    (kd_tuple : PySem.W.kitOne K (.type "tuple") (.ref C) = some false)
    (kd_dict : PySem.W.kitOne K (.type "dict") (.ref C) = some false)
    (ki : PySem.W.kitOne K (.ref C) (.type "int") = some false)
    (gcd : PySem.W.nsIn K mainGlobals "gcd" = some (some (.builtin "math.gcd")))
    (xCE : K.lookup CE = some (excClassObj nmCE qCE CE NCE bsCE bmCE true snCE subCE abCE colCE ddCE m0CE m1CE m2CE m3CE m5CE "ValueError.__new__"))
    (xrCE : PySem.HandSPX.refsVE bmCE = true)
    (xsCE : PySem.W.findIn K (.ref CE) "__setattr__" = some (some (.builtin "object.__setattr__")))
    (xeCE : PySem.W.subIn K (.ref CE) (.type "BaseException") = some true)
    (xtCE : PySem.W.typeIn K (.ref CE) = some (.type "type"))
    (xkCE : PySem.W.keepIn K (.ref CE) = true)
    (xgCE : PySem.W.findIn K (.ref CE) "__getattribute__" = some (some (.builtin "BaseException.__getattribute__")))
    (xaCE : PySem.W.findIn K (.ref CE) "__getattr__" = some none)
    (xhCE : PySem.W.hasDictIn K CE = true)
    (nCE_code : PySem.W.findIn K (.ref CE) "code" = some none)
    (nCE_given : PySem.W.findIn K (.ref CE) "given" = some none)
    (aCU : PySem.W.nsIn K mainGlobals "Unseen" = some (some (.ref CU)))
    (aCF : PySem.W.nsIn K mainGlobals "InvalidFact" = some (some (.ref CF)))
    (aaW : PySem.W.nsIn K mainGlobals "WORDS" = some (some (.ref aW)))
    (most : PySem.W.nsIn K mainGlobals "MOST_DEGREE" = some (some (.int 3 tk)))
    (lW0 : K.lookup aW = some ⟨.type "tuple", odW0, .seq #[.str "fn" w1, .str "let" w2, .str "slope" w3] nW, slW0⟩)
    (aIF : PySem.W.findIn K (.ref CF) "__init__" = some (some (.ref fIF)))
    (lIF : K.lookup fIF = some ⟨ocIF, odIF, .func (PySem.W.fnOf "__init__" "InvalidFact.__init__" (defArgs s_InvalidFact_D_initD_) (defBody s_InvalidFact_D_initD_) (defScope s_InvalidFact_D_initD_) .none kVIF dcIF pmIF anIF cdIF ctIF), slIF⟩)
    (cIF : PySem.W.codeIn K cdIF "InvalidFact.__init__" = true)
    (kIF : PySem.W.keepIn K (.ref fIF) = true)
    (tIF : PySem.W.typeIn K (.ref fIF) = some (.type "function"))
    (xCF : K.lookup CF = some (excClassObj nmCF qCF CF NCF bsCF bmCF true snCF subCF abCF colCF ddCF m0CF m1CF m2CF m3CF m5CF "ValueError.__new__"))
    (xrCF : PySem.HandSPX.refsVE bmCF = true)
    (xsCF : PySem.W.findIn K (.ref CF) "__setattr__" = some (some (.builtin "object.__setattr__")))
    (xeCF : PySem.W.subIn K (.ref CF) (.type "BaseException") = some true)
    (xtCF : PySem.W.typeIn K (.ref CF) = some (.type "type"))
    (xkCF : PySem.W.keepIn K (.ref CF) = true)
    (xgCF : PySem.W.findIn K (.ref CF) "__getattribute__" = some (some (.builtin "BaseException.__getattribute__")))
    (xaCF : PySem.W.findIn K (.ref CF) "__getattr__" = some none)
    (xhCF : PySem.W.hasDictIn K CF = true)
    (nCF_code : PySem.W.findIn K (.ref CF) "code" = some none)
    (nCF_what : PySem.W.findIn K (.ref CF) "what" = some none)
    (aU : PySem.W.findIn K (.ref CU) "__init__" = some (some (.ref fU)))
    (lU : K.lookup fU = some ⟨ocU, odU, .func (PySem.W.fnOf "__init__" "Unseen.__init__" (defArgs s_Unseen_D_initD_) (defBody s_Unseen_D_initD_) (defScope s_Unseen_D_initD_) (.ref TU) (.ref DU) dcU pmU anU cdU ctU), slU⟩)
    (cU : PySem.W.codeIn K cdU "Unseen.__init__" = true)
    (kU : PySem.W.keepIn K (.ref fU) = true)
    (iU : PySem.W.isFn K (.ref fU) = true)
    (lTU : K.lookup TU = some ⟨.type "tuple", odU0, .seq #[.int 1 tu] nU, slU0⟩)
    (d_mirror : PySem.W.nsIn K DU "mirror" = some (some .none))
    (d_centre : PySem.W.nsIn K DU "centre" = some (some (.int 0 tc)))
    (d_degree : PySem.W.nsIn K DU "degree" = some (some .none))
    (d_swap : PySem.W.nsIn K DU "swap" = some (some .none))
    (pgCU : PySem.W.plainGet K CU Str.empty = true)
    (hdCU : PySem.W.hasDictIn K CU = true)
    (poCU : PySem.W.plainOver K CU = true)
    (saCU : PySem.W.findIn K (.ref CU) "__setattr__" = some (some (.builtin "object.__setattr__")))
    (mkCU : PySem.W.makesIn K CU = true)
    (kcCU : PySem.W.keepIn K (.ref CU) = true)
    (haCU : PySem.W.findIn K (.ref CU) "__class__" = some (some (.builtin "object.__class__")))
    (hmCU : PySem.W.mroIn K CU (.type "object") = some true)
    (nCU_arity : PySem.W.findIn K (.ref CU) "arity" = some none)
    (nCU_mirror : PySem.W.findIn K (.ref CU) "mirror" = some none)
    (nCU_centre : PySem.W.findIn K (.ref CU) "centre" = some none)
    (nCU_degree : PySem.W.findIn K (.ref CU) "degree" = some none)
    (nCU_swap : PySem.W.findIn K (.ref CU) "swap" = some none)
    (nCU_text : PySem.W.findIn K (.ref CU) "text" = some none)
    (aQ : PySem.W.findIn K (.ref CU) "__eq__" = some (some (.ref fQ)))
    (lQ : K.lookup fQ = some ⟨ocQ, odQ, .func (PySem.W.fnOf "__eq__" "Unseen.__eq__" (defArgs s_Unseen_D_eqD_) (defBody s_Unseen_D_eqD_) (defScope s_Unseen_D_eqD_) .none kVQ dcQ pmQ anQ cdQ ctQ), slQ⟩)
    (cQ : PySem.W.codeIn K cdQ "Unseen.__eq__" = true)
    (kQ : PySem.W.keepIn K (.ref fQ) = true)
    (aSt : PySem.W.findIn K (.ref CU) "__str__" = some (some (.ref fSt)))
    (lSt : K.lookup fSt = some ⟨ocSt, odSt, .func (PySem.W.fnOf "__str__" "Unseen.__str__" (defArgs s_Unseen_D_strD_) (defBody s_Unseen_D_strD_) (defScope s_Unseen_D_strD_) .none kVSt dcSt pmSt anSt cdSt ctSt), slSt⟩)
    (cSt : PySem.W.codeIn K cdSt "Unseen.__str__" = true)
    (kSt : PySem.W.keepIn K (.ref fSt) = true)
    (aRe : PySem.W.findIn K (.ref CU) "__repr__" = some (some (.ref fRe)))
    (lRe : K.lookup fRe = some ⟨ocRe, odRe, .func (PySem.W.fnOf "__repr__" "Unseen.__repr__" (defArgs s_Unseen_D_reprD_) (defBody s_Unseen_D_reprD_) (defScope s_Unseen_D_reprD_) .none kVRe dcRe pmRe anRe cdRe ctRe), slRe⟩)
    (cRe : PySem.W.codeIn K cdRe "Unseen.__repr__" = true)
    (kRe : PySem.W.keepIn K (.ref fRe) = true)
    (iQ : PySem.W.isFn K (.ref fQ) = true)
    (iSt : PySem.W.isFn K (.ref fSt) = true)
    (iRe : PySem.W.isFn K (.ref fRe) = true)
    (ne : PySem.W.findIn K (.ref CU) "__ne__" = some (some (.builtin "object.__ne__")))
    (fm : PySem.W.findIn K (.ref CU) "__format__" = some (some (.builtin "object.__format__")))
    (nfS : PySem.W.notFirst K CU (.type "str") = true)
    (ktS : PySem.W.kitOne K (.type "str") (.ref CU) = some false)
    (pF : PySem.W.findIn K (.ref CU) "is_free" = some (some (.ref pFr)))
    (pG : PySem.W.specialIn K (.ref pFr) "__get__" = some (some (.builtin "property.__get__")))
    (pT : PySem.W.takesIn K (.ref pFr) = some true)
    (aFr : PySem.W.recIn K pFr "property" = some (.ref fFr :: rest))
    (lFr : K.lookup fFr = some ⟨ocFr, odFr, .func (PySem.W.fnOf "is_free" "Unseen.is_free" (defArgs s_Unseen_is_free) (defBody s_Unseen_is_free) (defScope s_Unseen_is_free) .none kVFr dcFr pmFr anFr cdFr ctFr), slFr⟩)
    (cFr : PySem.W.codeIn K cdFr "Unseen.is_free" = true)
    (kFr : PySem.W.keepIn K (.ref fFr) = true)
    (aRs : PySem.W.findIn K (.ref C) "__str__" = some (some (.ref fRs)))
    (lRs : K.lookup fRs = some ⟨ocRs, odRs, .func (PySem.W.fnOf "__str__" "Ratio.__str__" (defArgs s_Ratio_D_strD_) (defBody s_Ratio_D_strD_) (defScope s_Ratio_D_strD_) .none kVRs dcRs pmRs anRs cdRs ctRs), slRs⟩)
    (cRs : PySem.W.codeIn K cdRs "Ratio.__str__" = true)
    (kRs : PySem.W.keepIn K (.ref fRs) = true)
    (iRs : PySem.W.isFn K (.ref fRs) = true)
    (aDg : PySem.W.nsIn K mainGlobals "digits_of" = some (some (.ref fDg)))
    (lDg : K.lookup fDg = some ⟨ocDg, odDg, .func (PySem.W.fnOf "digits_of" "digits_of" (defArgs s_digits_of) (defBody s_digits_of) (defScope s_digits_of) .none kVDg dcDg pmDg anDg cdDg ctDg), slDg⟩)
    (cDg : PySem.W.codeIn K cdDg "digits_of" = true)
    (kDg : PySem.W.keepIn K (.ref fDg) = true)
    (aNa : PySem.W.nsIn K mainGlobals "is_name" = some (some (.ref fNa)))
    (lNa : K.lookup fNa = some ⟨ocNa, odNa, .func (PySem.W.fnOf "is_name" "is_name" (defArgs s_is_name) (defBody s_is_name) (defScope s_is_name) .none kVNa dcNa pmNa anNa cdNa ctNa), slNa⟩)
    (cNa : PySem.W.codeIn K cdNa "is_name" = true)
    (kNa : PySem.W.keepIn K (.ref fNa) = true)
    (aBa : PySem.W.nsIn K mainGlobals "_law_bag" = some (some (.ref fBa)))
    (lBa : K.lookup fBa = some ⟨ocBa, odBa, .func (PySem.W.fnOf "_law_bag" "_law_bag" (defArgs s_L_bag) (defBody s_L_bag) (defScope s_L_bag) .none kVBa dcBa pmBa anBa cdBa ctBa), slBa⟩)
    (cBa : PySem.W.codeIn K cdBa "_law_bag" = true)
    (kBa : PySem.W.keepIn K (.ref fBa) = true)
    (aP : PySem.W.nsIn K mainGlobals "_law_pull" = some (some (.ref fP)))
    (lP : K.lookup fP = some ⟨ocP, odP, .func (PySem.W.fnOf "_law_pull" "_law_pull" (defArgs s_L_pull) (defBody s_L_pull) (defScope s_L_pull) .none kVP dcP pmP anP cdP ctP), slP⟩)
    (cP : PySem.W.codeIn K cdP "_law_pull" = true)
    (kP : PySem.W.keepIn K (.ref fP) = true)
    (aOf : PySem.W.nsIn K mainGlobals "_law_of" = some (some (.ref fOf)))
    (lOf : K.lookup fOf = some ⟨ocOf, odOf, .func (PySem.W.fnOf "_law_of" "_law_of" (defArgs s_L_of) (defBody s_L_of) (defScope s_L_of) .none kVOf dcOf pmOf anOf cdOf ctOf), slOf⟩)
    (cOf : PySem.W.codeIn K cdOf "_law_of" = true)
    (kOf : PySem.W.keepIn K (.ref fOf) = true)
    (aSa : PySem.W.nsIn K mainGlobals "_law_same" = some (some (.ref fSa)))
    (lSa : K.lookup fSa = some ⟨ocSa, odSa, .func (PySem.W.fnOf "_law_same" "_law_same" (defArgs s_L_same) (defBody s_L_same) (defScope s_L_same) .none kVSa dcSa pmSa anSa cdSa ctSa), slSa⟩)
    (cSa : PySem.W.codeIn K cdSa "_law_same" = true)
    (kSa : PySem.W.keepIn K (.ref fSa) = true)
    (aLn : PySem.W.nsIn K mainGlobals "_law_name" = some (some (.ref fLn)))
    (lLn : K.lookup fLn = some ⟨ocLn, odLn, .func (PySem.W.fnOf "_law_name" "_law_name" (defArgs s_L_name) (defBody s_L_name) (defScope s_L_name) .none kVLn dcLn pmLn anLn cdLn ctLn), slLn⟩)
    (cLn : PySem.W.codeIn K cdLn "_law_name" = true)
    (kLn : PySem.W.keepIn K (.ref fLn) = true)
    (aLo : PySem.W.nsIn K mainGlobals "_law_low" = some (some (.ref fLo)))
    (lLo : K.lookup fLo = some ⟨ocLo, odLo, .func (PySem.W.fnOf "_law_low" "_law_low" (defArgs s_L_low) (defBody s_L_low) (defScope s_L_low) .none kVLo dcLo pmLo anLo cdLo ctLo), slLo⟩)
    (cLo : PySem.W.codeIn K cdLo "_law_low" = true)
    (kLo : PySem.W.keepIn K (.ref fLo) = true)
    (aPa : PySem.W.nsIn K mainGlobals "_law_pair" = some (some (.ref fPa)))
    (lPa : K.lookup fPa = some ⟨ocPa, odPa, .func (PySem.W.fnOf "_law_pair" "_law_pair" (defArgs s_L_pair) (defBody s_L_pair) (defScope s_L_pair) .none kVPa dcPa pmPa anPa cdPa ctPa), slPa⟩)
    (cPa : PySem.W.codeIn K cdPa "_law_pair" = true)
    (kPa : PySem.W.keepIn K (.ref fPa) = true)
    (aLr : PySem.W.nsIn K mainGlobals "_law_ratio" = some (some (.ref fLr)))
    (lLr : K.lookup fLr = some ⟨ocLr, odLr, .func (PySem.W.fnOf "_law_ratio" "_law_ratio" (defArgs s_L_ratio) (defBody s_L_ratio) (defScope s_L_ratio) .none kVLr dcLr pmLr anLr cdLr ctLr), slLr⟩)
    (cLr : PySem.W.codeIn K cdLr "_law_ratio" = true)
    (kLr : PySem.W.keepIn K (.ref fLr) = true)
    (aPt : PySem.W.nsIn K mainGlobals "_law_pair_text" = some (some (.ref fPt)))
    (lPt : K.lookup fPt = some ⟨ocPt, odPt, .func (PySem.W.fnOf "_law_pair_text" "_law_pair_text" (defArgs s_L_pair_text) (defBody s_L_pair_text) (defScope s_L_pair_text) .none kVPt dcPt pmPt anPt cdPt ctPt), slPt⟩)
    (cPt : PySem.W.codeIn K cdPt "_law_pair_text" = true)
    (kPt : PySem.W.keepIn K (.ref fPt) = true)
    (aFa : PySem.W.nsIn K mainGlobals "_law_facts" = some (some (.ref fFa)))
    (lFa : K.lookup fFa = some ⟨ocFa, odFa, .func (PySem.W.fnOf "_law_facts" "_law_facts" (defArgs s_L_facts) (defBody s_L_facts) (defScope s_L_facts) .none kVFa dcFa pmFa anFa cdFa ctFa), slFa⟩)
    (cFa : PySem.W.codeIn K cdFa "_law_facts" = true)
    (kFa : PySem.W.keepIn K (.ref fFa) = true)
    (aLu : PySem.W.nsIn K mainGlobals "_law_unseen" = some (some (.ref fLu)))
    (lLu : K.lookup fLu = some ⟨ocLu, odLu, .func (PySem.W.fnOf "_law_unseen" "_law_unseen" (defArgs s_L_unseen) (defBody s_L_unseen) (defScope s_L_unseen) .none kVLu dcLu pmLu anLu cdLu ctLu), slLu⟩)
    (cLu : PySem.W.codeIn K cdLu "_law_unseen" = true)
    (kLu : PySem.W.keepIn K (.ref fLu) = true)
    (aFt : PySem.W.nsIn K mainGlobals "_law_fact_text" = some (some (.ref fFt)))
    (lFt : K.lookup fFt = some ⟨ocFt, odFt, .func (PySem.W.fnOf "_law_fact_text" "_law_fact_text" (defArgs s_L_fact_text) (defBody s_L_fact_text) (defScope s_L_fact_text) .none kVFt dcFt pmFt anFt cdFt ctFt), slFt⟩)
    (cFt : PySem.W.codeIn K cdFt "_law_fact_text" = true)
    (kFt : PySem.W.keepIn K (.ref fFt) = true)
    (z_len : PySem.W.nsIn K mainGlobals "len" = some none)
    (z_abs : PySem.W.nsIn K mainGlobals "abs" = some none)
    (z_int : PySem.W.nsIn K mainGlobals "int" = some none)
    (z_list : PySem.W.nsIn K mainGlobals "list" = some none)
    (z_isinstance : PySem.W.nsIn K mainGlobals "isinstance" = some none)
    (z_bool : PySem.W.nsIn K mainGlobals "bool" = some none)
    (z_range : PySem.W.nsIn K mainGlobals "range" = some none)
    (z_str : PySem.W.nsIn K mainGlobals "str" = some none)
    (z_tuple : PySem.W.nsIn K mainGlobals "tuple" = some none)
    (z_all : PySem.W.nsIn K mainGlobals "all" = some none)
    (z_zip : PySem.W.nsIn K mainGlobals "zip" = some none)
    (z_repr : PySem.W.nsIn K mainGlobals "repr" = some none) :
    ∃ fd : FuncData, (∀ (s : Shared) (v : Value), BindsTo s fd ⟨[v], []⟩ [("_law_script", v)]) ∧ ∀ base : Heap, K.In base → base.Ns mainGlobals mg → FnOk l.prog w K mg base CX0 10 fa fd ["_law_script"] (spLaw K) := by
  have e := hfa.symm.trans (PySem.W.mg_of X G aL)
  cases e
  have FWh := fun_mk (st := s_is_whole) lWh cWh kWh
  have bWh := FWh.binds (ps := ["value"]) fun _ _ _ _ _ _ us hl => match us, hl with | [_], _ => rfl
  have FNu := fun_mk (st := s_is_number) lNu cNu kNu
  have bNu := FNu.binds (ps := ["value"]) fun _ _ _ _ _ _ us hl => match us, hl with | [_], _ => rfl
  have FRo := fun_mk (st := s_ratio_of) lRo cRo kRo
  have bRo := FRo.binds (ps := ["value"]) fun _ _ _ _ _ _ us hl => match us, hl with | [_], _ => rfl
  have FE := fun_mk (st := s_InvalidNumber_D_initD_) lE cE kE
  have bE := FE.binds (ps := ["self", "given"]) fun _ _ _ _ _ _ us hl => match us, hl with | [_, _], _ => rfl
  have FR : FunD K "__init__" "Ratio.__init__" (defArgs s_Ratio_D_initD_) (defBody s_Ratio_D_initD_) (defScope s_Ratio_D_initD_) [.int 1] [] fR _ :=
    ⟨⟨_, _, _, _, _, _, _, _, _, _, rfl, lR, cR, .inr ⟨(fun z => nomatch z), TR, _, [.int 1 t0], nT, rfl, lT0, rfl, .cons ⟨_, rfl⟩ .nil⟩, .inl rfl⟩, kR⟩
  obtain ⟨ds1, v1, b1⟩ := FR.binds1 (ps := ["self", "top", "bottom"]) 2 0 (fun z => nomatch z) rfl (fun T kV doc pm an cdv ct us its h1 h2 => match us, its, h1, h2 with | [_, _], [_], _, _ => ⟨_, rfl, rfl⟩)
  obtain ⟨ds2, v2, b2⟩ := FR.binds1 (ps := ["self", "top", "bottom"]) 3 1 (fun z => nomatch z) rfl (fun T kV doc pm an cdv ct us its h1 h2 => match us, its, h1, h2 with | [_, _, _], [_], _, _ => ⟨_, rfl, rfl⟩)
  cases v2
  have kC : Cls K C := ⟨pgC, hdC, poC, saC⟩
  have xE : OexC K CE := ⟨⟨_, _, _, _, _, _, _, _, _, _, _, _, _, _, _, xCE, xrCE⟩, xsCE, xeCE, xtCE, xkCE⟩
  have er : ErrC K mg "InvalidNumber" "given" CE fE := ⟨xE, aE, tE, PySem.W.mg_of X G aCE, nCE_code, nCE_given, ⟨xgCE, xaCE, xeCE, xhCE⟩⟩
  have RC : RatC K mg C CE fE fWh fNu fRo := { cl := kC, nT := nC_top, nB := nC_bottom, tyi := fun H a dx fs e => .base (.ins e kC haC hn htk hmC), kd := fun d => (match d with | .none => kd_NoneType | .bool _ => kd_bool | .int _ => kd_int | .str _ => kd_str | .list _ => kd_list | .tuple _ => kd_tuple | .dict _ => kd_dict), ki := ki, g_Ratio := PySem.W.mg_of X G aC, g_whole := PySem.W.mg_of X G aWh, k_whole := kWh, g_number := PySem.W.mg_of X G aNu, k_number := kNu, g_rof := PySem.W.mg_of X G aRo, k_rof := kRo, gcd := PySem.W.mg_of X G gcd, isinstance := PySem.W.mg_none_of X G z_isinstance, int := PySem.W.mg_none_of X G z_int, bool := PySem.W.mg_none_of X G z_bool, abs := PySem.W.mg_none_of X G z_abs, x_InvalidNumber := xE, i_InvalidNumber := aE, t_InvalidNumber := tE, g_InvalidNumber := PySem.W.mg_of X G aCE }
  have MR : Mk K C fR := ⟨mkC, aR, iR, kcC⟩
  have FBa := fun_mk (st := s_L_bag) lBa cBa kBa
  have bBa := FBa.binds (ps := ["_law_script"]) fun _ _ _ _ _ _ us hl => match us, hl with | [_], _ => rfl
  have FP := fun_mk (st := s_L_pull) lP cP kP
  have bP := FP.binds (ps := ["_law_bag_here", "_law_many"]) fun _ _ _ _ _ _ us hl => match us, hl with | [_, _], _ => rfl
  have FOf := fun_mk (st := s_L_of) lOf cOf kOf
  have bOf := FOf.binds (ps := ["_law_bag_here", "_law_things"]) fun _ _ _ _ _ _ us hl => match us, hl with | [_, _], _ => rfl
  have FSa := fun_mk (st := s_L_same) lSa cSa kSa
  have bSa := FSa.binds (ps := ["_law_found", "_law_due"]) fun _ _ _ _ _ _ us hl => match us, hl with | [_, _], _ => rfl
  have FLn := fun_mk (st := s_L_name) lLn cLn kLn
  have bLn := FLn.binds (ps := ["_law_bag_here"]) fun _ _ _ _ _ _ us hl => match us, hl with | [_], _ => rfl
  have FLo := fun_mk (st := s_L_low) lLo cLo kLo
  have bLo := FLo.binds (ps := ["_law_top", "_law_bottom"]) fun _ _ _ _ _ _ us hl => match us, hl with | [_, _], _ => rfl
  have FPa := fun_mk (st := s_L_pair) lPa cPa kPa
  have bPa := FPa.binds (ps := ["_law_found"]) fun _ _ _ _ _ _ us hl => match us, hl with | [_], _ => rfl
  have FLr := fun_mk (st := s_L_ratio) lLr cLr kLr
  have bLr := FLr.binds (ps := ["_law_pair_here"]) fun _ _ _ _ _ _ us hl => match us, hl with | [_], _ => rfl
  have FPt := fun_mk (st := s_L_pair_text) lPt cPt kPt
  have bPt := FPt.binds (ps := ["_law_pair_here"]) fun _ _ _ _ _ _ us hl => match us, hl with | [_], _ => rfl
  have FFa := fun_mk (st := s_L_facts) lFa cFa kFa
  have bFa := FFa.binds (ps := ["_law_bag_here", "_law_degrees"]) fun _ _ _ _ _ _ us hl => match us, hl with | [_, _], _ => rfl
  have FLu := fun_mk (st := s_L_unseen) lLu cLu kLu
  have bLu := FLu.binds (ps := ["_law_fact"]) fun _ _ _ _ _ _ us hl => match us, hl with | [_], _ => rfl
  have FFt := fun_mk (st := s_L_fact_text) lFt cFt kFt
  have bFt := FFt.binds (ps := ["_law_fact"]) fun _ _ _ _ _ _ us hl => match us, hl with | [_], _ => rfl
  have FDg := fun_mk (st := s_digits_of) lDg cDg kDg
  have bDg := FDg.binds (ps := ["number"]) fun _ _ _ _ _ _ us hl => match us, hl with | [_], _ => rfl
  have FNa := fun_mk (st := s_is_name) lNa cNa kNa
  have bNa := FNa.binds (ps := ["value"]) fun _ _ _ _ _ _ us hl => match us, hl with | [_], _ => rfl
  have FRs := fun_mk (st := s_Ratio_D_strD_) lRs cRs kRs
  have bRs := FRs.binds (ps := ["self"]) fun _ _ _ _ _ _ us hl => match us, hl with | [_], _ => rfl
  have FIF := fun_mk (st := s_InvalidFact_D_initD_) lIF cIF kIF
  have bIF := FIF.binds (ps := ["self", "what"]) fun _ _ _ _ _ _ us hl => match us, hl with | [_, _], _ => rfl
  have FQ := fun_mk (st := s_Unseen_D_eqD_) lQ cQ kQ
  have bQ := FQ.binds (ps := ["self", "other"]) fun _ _ _ _ _ _ us hl => match us, hl with | [_, _], _ => rfl
  have FSt := fun_mk (st := s_Unseen_D_strD_) lSt cSt kSt
  have bSt := FSt.binds (ps := ["self"]) fun _ _ _ _ _ _ us hl => match us, hl with | [_], _ => rfl
  have FRe := fun_mk (st := s_Unseen_D_reprD_) lRe cRe kRe
  have bRe := FRe.binds (ps := ["self"]) fun _ _ _ _ _ _ us hl => match us, hl with | [_], _ => rfl
  have FFr := fun_mk (st := s_Unseen_is_free) lFr cFr kFr
  have bFr := FFr.binds (ps := ["self"]) fun _ _ _ _ _ _ us hl => match us, hl with | [_], _ => rfl
  have FL := fun_mk (st := s_law) lL cL kL
  have FU : FunD K "__init__" "Unseen.__init__" (defArgs s_Unseen_D_initD_) (defBody s_Unseen_D_initD_) (defScope s_Unseen_D_initD_) [.int 1] [("mirror", .non), ("centre", .int 0), ("degree", .non), ("swap", .non)] fU _ :=
    ⟨⟨_, _, _, _, _, _, _, _, _, _, rfl, lU, cU, .inr ⟨(fun z => nomatch z), TU, _, [.int 1 tu], nU, rfl, lTU, rfl, .cons ⟨_, rfl⟩ .nil⟩, .inr ⟨DU, rfl, fun q hq => by
      rcases List.mem_cons.mp hq with rfl | hq
      · exact ⟨_, d_mirror, rfl⟩
      rcases List.mem_cons.mp hq with rfl | hq
      · exact ⟨_, d_centre, ⟨_, rfl⟩⟩
      rcases List.mem_cons.mp hq with rfl | hq
      · exact ⟨_, d_degree, rfl⟩
      rcases List.mem_cons.mp hq with rfl | hq
      · exact ⟨_, d_swap, rfl⟩
      cases hq⟩⟩, kU⟩
  obtain ⟨es1, w1', ub1⟩ := FU.binds (ps := ["self", "arity", "mirror", "centre", "degree", "swap"]) 1 0 (fun z => nomatch z) rfl (fun T D doc pm an cdv ct us its ks h1 h2 h3 => match us, its, ks, h1, h2, h3 with | [_], [_], [_, _, _, _], _, _, _ => ⟨_, rfl, _, _, _, _, _, _, rfl, rfl, _, _, _, _, _, _, rfl, rfl, _, _, _, _, _, _, rfl, rfl, _, _, _, _, _, _, rfl, rfl, rfl⟩) (fun z => nomatch z)
  obtain ⟨es2, w2', ub2⟩ := FU.binds (ps := ["self", "arity", "mirror", "centre", "degree", "swap"]) 2 1 (fun z => nomatch z) rfl (fun T D doc pm an cdv ct us its ks h1 h2 h3 => match us, its, ks, h1, h2, h3 with | [_, _], [_], [_, _, _, _], _, _, _ => ⟨_, rfl, _, _, _, _, _, _, rfl, rfl, _, _, _, _, _, _, rfl, rfl, _, _, _, _, _, _, rfl, rfl, _, _, _, _, _, _, rfl, rfl, rfl⟩) (fun z => nomatch z)
  obtain ⟨its1, mv1, ukb⟩ := FU.kbinds (ps := ["self", "arity", "mirror", "centre", "degree", "swap"]) 2 ["mirror", "centre", "degree", "swap"] [] (fun us _ _ ws => us ++ ws) (fun z => nomatch z) (fun z => nomatch z) (fun q hq => nomatch hq) (fun r1 _ _ r4 => r1.append r4) (fun T D doc pm an cdv ct us its mv ws h1 h2 h3 h4 => match us, its, mv, ws, h1, h2, h3, h4 with | [_, _], [_], [], [_, _, _, _], _, _, _, _ => ⟨_, rfl, rfl⟩)
  obtain ⟨its2, mv2, ukc⟩ := FU.kbinds (ps := ["self", "arity", "mirror", "centre", "degree", "swap"]) 1 ["mirror", "centre", "degree"] [("swap", .non)] (fun us its mv ws => us ++ its ++ ws ++ mv) (fun z => nomatch z) (fun z => nomatch z) (fun q hq => by rcases List.mem_cons.mp hq with rfl | hq; exact List.Mem.tail _ (List.Mem.tail _ (List.Mem.tail _ (List.Mem.head _))); cases hq) (fun r1 r2 r3 r4 => ((r1.append r2).append r4).append r3) (fun T D doc pm an cdv ct us its mv ws h1 h2 h3 h4 => match us, its, mv, ws, h1, h2, h3, h4 with | [_], [_], [_], [_, _, _], _, _, _, _ => ⟨_, rfl, _, _, _, _, _, _, rfl, rfl, rfl⟩)
  have kbNa : KBn K (PySem.W.fnOf "is_name" "is_name" (defArgs s_is_name) (defBody s_is_name) (defScope s_is_name) .none kVNa dcNa pmNa anNa cdNa ctNa) ["value"] 0 ["value"] (fun us ws => us ++ ws) (fun vs zs => vs ++ zs) := ⟨fun s us ws _ l1 l2 => (match us, ws, l1, l2 with | [], [_], _, _ => .of_eq rfl : BindsTo s (PySem.W.fnOf "is_name" "is_name" (defArgs s_is_name) (defBody s_is_name) (defScope s_is_name) .none kVNa dcNa pmNa anNa cdNa ctNa) ⟨us, (["value"] : List Str).zip ws⟩ ((["value"] : List Str).zip (us ++ ws))), fun r1 r2 => r1.append r2⟩
  have kCU : Cls K CU := ⟨pgCU, hdCU, poCU, saCU⟩
  have xF : OexC K CF := ⟨⟨_, _, _, _, _, _, _, _, _, _, _, _, _, _, _, xCF, xrCF⟩, xsCF, xeCF, xtCF, xkCF⟩
  have erF : ErrC K mg "InvalidFact" "what" CF fIF := ⟨xF, aIF, tIF, PySem.W.mg_of X G aCF, nCF_code, nCF_what, ⟨xgCF, xaCF, xeCF, xhCF⟩⟩
  have TL : TxtL mg := ⟨PySem.W.mg_none_of X G z_len, PySem.W.mg_none_of X G z_abs, PySem.W.mg_none_of X G z_int, PySem.W.mg_none_of X G z_list⟩
  have TS : TxtS K mg fSa := ⟨PySem.W.mg_none_of X G z_len, PySem.W.mg_none_of X G z_isinstance, PySem.W.mg_none_of X G z_bool, PySem.W.mg_none_of X G z_int, PySem.W.mg_none_of X G z_str, PySem.W.mg_none_of X G z_list, PySem.W.mg_none_of X G z_tuple, PySem.W.mg_none_of X G z_all, PySem.W.mg_none_of X G z_zip, PySem.W.mg_of X G aSa, kSa⟩
  have TQ : TxtQ K mg C CE fE fWh fNu fRo fP fLo := { toRatC := RC, g_pull := PySem.W.mg_of X G aP, k_pull := kP, g_low := PySem.W.mg_of X G aLo, k_low := kLo }
  have TD : TxtD K mg C fDg := ⟨PySem.W.mg_none_of X G z_abs, PySem.W.mg_none_of X G z_str, PySem.W.mg_of X G aDg, kDg, kC, nC_top, nC_bottom⟩
  have TU' : TxtU K mg CU C CE fE fWh fNu fRo fRs CF fIF tk := { toRatC := RC, ucl := kCU, uA := nCU_arity, uM := nCU_mirror, uC := nCU_centre, uD := nCU_degree, uS := nCU_swap, uT := nCU_text, g_Unseen := PySem.W.mg_of X G aCU, g_MOST := PySem.W.mg_of X G most, str := PySem.W.mg_none_of X G z_str, s_rstr := ⟨aRs, iRs⟩, x_InvalidFact := xF, i_InvalidFact := aIF, t_InvalidFact := tIF, g_InvalidFact := PySem.W.mg_of X G aCF }
  have tyu : ∀ (H : Hp) (a dx : Addr) (fs : List (Str × V)), H a = some (.ins CU dx fs) → TyX K H (.ref a) (.ref CU) := fun H a dx fs e => .base (.ins e kCU haCU hn htk hmCU)
  have TN : TxtN K mg aW := ⟨PySem.W.mg_none_of X G z_isinstance, PySem.W.mg_none_of X G z_str, PySem.W.mg_none_of X G z_len, PySem.W.mg_none_of X G z_all, PySem.W.mg_of X G aaW, ⟨_, _, _, lW0, rfl, rfl, (by show 3 ≤ sizeLine; decide), .cons ⟨_, rfl⟩ (.cons ⟨_, rfl⟩ (.cons ⟨_, rfl⟩ .nil))⟩⟩
  refine ⟨PySem.W.fnOf "law" "law" (defArgs s_law) (defBody s_law) (defScope s_law) .none kVL dcL pmL anL cdL ctL, fun s v => .of_eq rfl, fun base _ _ => ?_⟩
  have GWh := ok_whole (P := l.prog) (w := w) (base := base) FWh RC
  have GNu := ok_number (P := l.prog) (w := w) (base := base) FNu RC GWh bWh
  have GE := ok_InvalidNumber (P := l.prog) (w := w) (base := base) (C := CE) FE er
  have GR := ok_Ratio (P := l.prog) (w := w) (base := base) FR RC GWh bWh GE bE
  have GRo := ok_rof (P := l.prog) (w := w) (base := base) FRo RC GWh bWh GE bE MR GR ⟨v1, b1⟩
  have GP := ok_pull (P := l.prog) (w := w) (base := base) FP TL
  have GLo := ok_low (P := l.prog) (w := w) (base := base) FLo TQ
  have GOf := ok_of (P := l.prog) (w := w) (base := base) FOf ⟨PySem.W.mg_none_of X G z_len, PySem.W.mg_of X G aP, kP⟩ GP bP
  have GDg := ok_dig (P := l.prog) (w := w) (base := base) FDg TD
  have GRs := ok_ratstr (P := l.prog) (w := w) (base := base) FRs TD GDg bDg
  have GIF := ok_InvalidFact (P := l.prog) (w := w) (base := base) (C := CF) FIF erF
  have GU := ok_Unseen (P := l.prog) (w := w) (base := base) FU TU' GNu bNu GRo bRo GRs bRs GIF bIF
  have GSt := ok_unstr (P := l.prog) (w := w) (base := base) FSt TU'
  have GLr := ok_lratio (P := l.prog) (w := w) (base := base) FLr RC MR GR b2
  have GPt := ok_pair_text (P := l.prog) (w := w) (base := base) FPt TD
  have MU : Mk K CU fU := ⟨mkCU, aU, iU, kcCU⟩
  have TT : TxtT K mg CU fLr fPt := ⟨PySem.W.mg_of X G aCU, PySem.W.mg_none_of X G z_str, PySem.W.mg_of X G aLr, kLr, PySem.W.mg_of X G aPt, kPt⟩
  have TK : TxtK K mg CU C CE fE fWh fNu fRo fRs CF fIF tk fBa fP fOf fSa fNa fLn fFa fLu fFt fPa fQ fSt fRe pFr fFr := { u := TU', range := PySem.W.mg_none_of X G z_range, repr := PySem.W.mg_none_of X G z_repr, list := PySem.W.mg_none_of X G z_list, g_bag := PySem.W.mg_of X G aBa, k_bag := kBa, g_pull := PySem.W.mg_of X G aP, k_pull := kP, g_of := PySem.W.mg_of X G aOf, k_of := kOf, g_same := PySem.W.mg_of X G aSa, k_same := kSa, g_name := PySem.W.mg_of X G aNa, k_name := kNa, g_lname := PySem.W.mg_of X G aLn, k_lname := kLn, g_facts := PySem.W.mg_of X G aFa, k_facts := kFa, g_lunseen := PySem.W.mg_of X G aLu, k_lunseen := kLu, g_ftext := PySem.W.mg_of X G aFt, k_ftext := kFt, g_pair := PySem.W.mg_of X G aPa, k_pair := kPa, s_eq := ⟨aQ, iQ⟩, ne := ne, mro := hmCU, s_str := ⟨aSt, iSt⟩, s_repr := ⟨aRe, iRe⟩, p_free := ⟨pF, pG, pT, ⟨_, aFr⟩⟩, tyu := tyu, nfS := nfS, ktS := ktS }
  exact ok_law FL TK (ok_bag FBa TL) bBa GP bP GOf bOf (ok_same FSa TS bSa 4) bSa (ok_name FNa TN) bNa kbNa (ok_lname FLn ⟨PySem.W.mg_none_of X G z_range, PySem.W.mg_of X G aP, kP⟩ GP bP) bLn (ok_facts FFa ⟨PySem.W.mg_of X G aP, kP, PySem.W.mg_of X G aOf, kOf, PySem.W.mg_of X G aLo, kLo⟩ GP bP GOf bOf GLo bLo) bFa (ok_lunseen FLu TT GLr bLr MU GU ukb) bLu (ok_ftext FFt TT GPt bPt) bFt (ok_pair_ FPa RC) bPa
    (ok_uneq FQ TU' tyu) bQ GSt bSt (ok_unrepr FRe ⟨⟨aSt, iSt⟩, fm, hmCU⟩ GSt bSt) bRe (ok_free FFr TU') bFr MU GU ⟨w1', ub1⟩ ⟨w2', ub2⟩ ukc
theorem walk {l : PySem.W.OpenLaw} {q : Program} {loose : List Str} {XP : (Str → Option Value) → Heap → Prop} {YP : World → Heap → Prop} {d : DefRec} {K : Params → PySem.W.Frag} (hn : l.most = some 63) (hdf : d.params.defaults = [])
    (hY : ∀ (w : World) (h : Heap), YP w h → (K w.params).In h)
    (F : ∀ (w : World) (mg : Str → Option Value) (fa : Addr) (h : Heap), (K w.params).In h → h.Ns mainGlobals mg → mg d.name = some (.ref fa) →
      ∃ fd : FuncData, (∀ (s : Shared) (u : Value), BindsTo s fd ⟨[u], []⟩ [("_law_script", u)]) ∧ ∀ base : Heap, (K w.params).In base → base.Ns mainGlobals mg → FnOk l.prog w (K w.params) mg base CX0 10 fa fd ["_law_script"] (spLaw (K w.params))) :
    PySem.W.WalkO q loose XP YP l.row.toRowW d [] (fun f vs => PySem.call f vs) :=
  L2.walk_of (n := 63) (k := 10) (x := "_law_script") (CX := fun _ => CX0) (sp := fun w => spLaw (K w.params)) hn (by decide) hdf ⟨rfl, by decide, by decide⟩ hY F (fun _ _ a ns hl _ hS => ⟨a, ns, rfl, hS, fun _ => rfl⟩) fun _ _ _ _ _ z => z
end Mine

open PySem PySem.W PyProof.Rows
set_option maxRecDepth 100000 in
set_option maxHeartbeats 0 in
theorem PySem.Challenge.cw_unseenslopes_k05_names_and_facts_holds : PySem.Challenge.rw_unseenslopes_k05_names_and_facts.Holds := by
  w_on; o_law; k_head; (case hw => w_witness2)
  k_fill
  refine Mine.walk (l := PySem.Challenge.rw_unseenslopes_k05_names_and_facts) rfl rfl (fun w h Y => by first | exact PySem.W.kIn_of Y | exact PySem.W.km_in_of Y) ?F
  case F =>
    intro w mg fa h KX G hmg
    refine' Mine.all_mk KX G hmg ?aL ?lL ?cL ?kL ?aC ?aCE ?aWh ?lWh ?cWh ?kWh ?aNu ?lNu ?cNu ?kNu ?aRo ?lRo ?cRo ?kRo ?aE ?lE ?cE ?kE ?tE ?aR ?lR ?cR ?kR ?iR ?lT0 ?pgC ?hdC ?poC ?saC ?mkC ?kcC ?haC ?hmC ?nC_top ?nC_bottom ?hn ?htk ?kd_NoneType ?kd_bool ?kd_int ?kd_str ?kd_list ?kd_tuple ?kd_dict ?ki ?gcd ?xCE ?xrCE ?xsCE ?xeCE ?xtCE ?xkCE ?xgCE ?xaCE ?xhCE ?nCE_code ?nCE_given ?aCU ?aCF ?aaW ?most ?lW0 ?aIF ?lIF ?cIF ?kIF ?tIF ?xCF ?xrCF ?xsCF ?xeCF ?xtCF ?xkCF ?xgCF ?xaCF ?xhCF ?nCF_code ?nCF_what ?aU ?lU ?cU ?kU ?iU ?lTU ?d_mirror ?d_centre ?d_degree ?d_swap ?pgCU ?hdCU ?poCU ?saCU ?mkCU ?kcCU ?haCU ?hmCU ?nCU_arity ?nCU_mirror ?nCU_centre ?nCU_degree ?nCU_swap ?nCU_text ?aQ ?lQ ?cQ ?kQ ?aSt ?lSt ?cSt ?kSt ?aRe ?lRe ?cRe ?kRe ?iQ ?iSt ?iRe ?ne ?fm ?nfS ?ktS ?pF ?pG ?pT ?aFr ?lFr ?cFr ?kFr ?aRs ?lRs ?cRs ?kRs ?iRs ?aDg ?lDg ?cDg ?kDg ?aNa ?lNa ?cNa ?kNa ?aBa ?lBa ?cBa ?kBa ?aP ?lP ?cP ?kP ?aOf ?lOf ?cOf ?kOf ?aSa ?lSa ?cSa ?kSa ?aLn ?lLn ?cLn ?kLn ?aLo ?lLo ?cLo ?kLo ?aPa ?lPa ?cPa ?kPa ?aLr ?lLr ?cLr ?kLr ?aPt ?lPt ?cPt ?kPt ?aFa ?lFa ?cFa ?kFa ?aLu ?lLu ?cLu ?kLu ?aFt ?lFt ?cFt ?kFt ?z_len ?z_abs ?z_int ?z_list ?z_isinstance ?z_bool ?z_range ?z_str ?z_tuple ?z_all ?z_zip ?z_repr
    (case aL => k_is)
    (case lL => k_is)
    (case cL => k_is)
    (case kL => k_is)
    (case aC => k_is)
    (case aCE => k_is)
    (case aWh => k_is)
    (case lWh => k_is)
    (case cWh => k_is)
    (case kWh => k_is)
    (case aNu => k_is)
    (case lNu => k_is)
    (case cNu => k_is)
    (case kNu => k_is)
    (case aRo => k_is)
    (case lRo => k_is)
    (case cRo => k_is)
    (case kRo => k_is)
    (case aE => k_is)
    (case lE => k_is)
    (case cE => k_is)
    (case kE => k_is)
    (case tE => k_is)
    (case aR => k_is)
    (case lR => k_is)
    (case cR => k_is)
    (case kR => k_is)
    (case iR => k_is)
    (case lT0 => k_is)
    (case pgC => k_is)
    (case hdC => k_is)
    (case poC => k_is)
    (case saC => k_is)
    (case mkC => k_is)
    (case kcC => k_is)
    (case haC => k_is)
    (case hmC => k_is)
    (case nC_top => k_is)
    (case nC_bottom => k_is)
    (case hn => k_is)
    (case htk => k_is)
    (case kd_NoneType => kernel_rfl)
    (case kd_bool => kernel_rfl)
    (case kd_int => kernel_rfl)
    (case kd_str => kernel_rfl)
    (case kd_list => kernel_rfl)
    (case kd_tuple => kernel_rfl)
    (case kd_dict => kernel_rfl)
    (case ki => kernel_rfl)
    (case gcd => k_is)
    (case xCE => k_is)
    (case xrCE => kernel_rfl)
    (case xsCE => k_is)
    (case xeCE => k_is)
    (case xtCE => k_is)
    (case xkCE => k_is)
    (case xgCE => k_is)
    (case xaCE => k_is)
    (case xhCE => k_is)
    (case nCE_code => k_is)
    (case nCE_given => k_is)
    (case aCU => k_is)
    (case aCF => k_is)
    (case aaW => k_is)
    (case most => k_is)
    (case lW0 => k_is)
    (case aIF => k_is)
    (case lIF => k_is)
    (case cIF => k_is)
    (case kIF => k_is)
    (case tIF => k_is)
    (case xCF => k_is)
    (case xrCF => kernel_rfl)
    (case xsCF => k_is)
    (case xeCF => k_is)
    (case xtCF => k_is)
    (case xkCF => k_is)
    (case xgCF => k_is)
    (case xaCF => k_is)
    (case xhCF => k_is)
    (case nCF_code => k_is)
    (case nCF_what => k_is)
    (case aU => k_is)
    (case lU => k_is)
    (case cU => k_is)
    (case kU => k_is)
    (case iU => k_is)
    (case lTU => k_is)
    (case d_mirror => k_is)
    (case d_centre => k_is)
    (case d_degree => k_is)
    (case d_swap => k_is)
    (case pgCU => k_is)
    (case hdCU => k_is)
    (case poCU => k_is)
    (case saCU => k_is)
    (case mkCU => k_is)
    (case kcCU => k_is)
    (case haCU => k_is)
    (case hmCU => k_is)
    (case nCU_arity => k_is)
    (case nCU_mirror => k_is)
    (case nCU_centre => k_is)
    (case nCU_degree => k_is)
    (case nCU_swap => k_is)
    (case nCU_text => k_is)
    (case aQ => k_is)
    (case lQ => k_is)
    (case cQ => k_is)
    (case kQ => k_is)
    (case aSt => k_is)
    (case lSt => k_is)
    (case cSt => k_is)
    (case kSt => k_is)
    (case aRe => k_is)
    (case lRe => k_is)
    (case cRe => k_is)
    (case kRe => k_is)
    (case iQ => k_is)
    (case iSt => k_is)
    (case iRe => k_is)
    (case ne => k_is)
    (case fm => k_is)
    (case nfS => k_is)
    (case ktS => kernel_rfl)
    (case pF => k_is)
    (case pG => k_is)
    (case pT => k_is)
    (case aFr => k_is)
    (case lFr => k_is)
    (case cFr => k_is)
    (case kFr => k_is)
    (case aRs => k_is)
    (case lRs => k_is)
    (case cRs => k_is)
    (case kRs => k_is)
    (case iRs => k_is)
    (case aDg => k_is)
    (case lDg => k_is)
    (case cDg => k_is)
    (case kDg => k_is)
    (case aNa => k_is)
    (case lNa => k_is)
    (case cNa => k_is)
    (case kNa => k_is)
    (case aBa => k_is)
    (case lBa => k_is)
    (case cBa => k_is)
    (case kBa => k_is)
    (case aP => k_is)
    (case lP => k_is)
    (case cP => k_is)
    (case kP => k_is)
    (case aOf => k_is)
    (case lOf => k_is)
    (case cOf => k_is)
    (case kOf => k_is)
    (case aSa => k_is)
    (case lSa => k_is)
    (case cSa => k_is)
    (case kSa => k_is)
    (case aLn => k_is)
    (case lLn => k_is)
    (case cLn => k_is)
    (case kLn => k_is)
    (case aLo => k_is)
    (case lLo => k_is)
    (case cLo => k_is)
    (case kLo => k_is)
    (case aPa => k_is)
    (case lPa => k_is)
    (case cPa => k_is)
    (case kPa => k_is)
    (case aLr => k_is)
    (case lLr => k_is)
    (case cLr => k_is)
    (case kLr => k_is)
    (case aPt => k_is)
    (case lPt => k_is)
    (case cPt => k_is)
    (case kPt => k_is)
    (case aFa => k_is)
    (case lFa => k_is)
    (case cFa => k_is)
    (case kFa => k_is)
    (case aLu => k_is)
    (case lLu => k_is)
    (case cLu => k_is)
    (case kLu => k_is)
    (case aFt => k_is)
    (case lFt => k_is)
    (case cFt => k_is)
    (case kFt => k_is)
    (case z_len => k_is)
    (case z_abs => k_is)
    (case z_int => k_is)
    (case z_list => k_is)
    (case z_isinstance => k_is)
    (case z_bool => k_is)
    (case z_range => k_is)
    (case z_str => k_is)
    (case z_tuple => k_is)
    (case z_all => k_is)
    (case z_zip => k_is)
    (case z_repr => k_is)

