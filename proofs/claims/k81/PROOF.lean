import PyProof.Rows.All
import Wide.All
import OpenK.AllK
import Wide.FinOn
import HandS.ForMost
import HandS.ForExc
import HandS.ExcInit
import HandS.ExcField
import HandS.TryMany
import HandS.IsInst
import HandS.Flow
import HandS.Conv
import KE.GoesEnum
import KE.GoesNew
import KE.KAssignIn
import PyProof.StrOps2
import HandS.Codes
import HandS.Style
import PySem.Challenge.RW_letterfolds_k81_identities_that_are_read
set_option Elab.async false
set_option linter.all false
set_option maxRecDepth 100000
set_option maxHeartbeats 4000000
namespace LX
open PySem PySem.Spec PyProof.Rows L2

/-! ### deep recursion: room by the number of frames -/
structure RoomD (d : Nat) (A : Around) : Prop where
  hd : A.handled = none
  dp : A.depth + d + 20 < recursionLimit
  un : A.units + 4 * d + 400 < cLine
theorem RoomD.deeper {d : Nat} {A : Around} (r : RoomD (d + 1) A) (env : Env) : RoomD d (A.deeper env) :=
  ⟨r.hd, by have := r.dp; show A.depth + 1 + d + 20 < _; omega, by have := r.un; show A.units + 3 + 4 * d + 400 < _; omega⟩
theorem RoomD.mono {d e : Nat} {A : Around} (r : RoomD d A) (h : e ≤ d) : RoomD e A := ⟨r.hd, by have := r.dp; omega, by have := r.un; omega⟩
theorem RoomD.room {d : Nat} {A : Around} (r : RoomD d A) : Room 5 A := ⟨r.hd, by have := r.dp; omega, by have := r.un; omega⟩
theorem RoomD.of {k d : Nat} {A : Around} (r : Room k A) (h : d + 15 ≤ 3 * k) (h2 : 43 ≤ k) : RoomD d A := ⟨r.hd, by have := r.dp; omega, by have := r.un; omega⟩

/-- a def's promise, wherever R holds around -/
structure FnG (R : Around → Prop) (P : Program) (w : World) (K : PySem.W.Frag) (mg : Str → Option Value) (base : Heap) (CX : CXT) (f : Addr) (fd : FuncData) (ps : List Str) (sp : Sp) : Prop where
  len : ∀ vs H Q E, sp vs H Q E → vs.length = ps.length
  run : ∀ (A : Around) (outer : List Env) (s : Shared) (H : Hp) (args : Args) (us : List Value) (vs : List V) (Q : VK) (E : XK), R A → Env0 P w K mg base A outer s H → BindsTo s fd args (ps.zip us) → Vals vs us → sp vs H Q E →
    codeAny (model P w) A (.call (.ref f) args) (CR CX outer P w H s Q E) s
theorem FnG.ok {R : Around → Prop} {P : Program} {w : World} {K : PySem.W.Frag} {mg : Str → Option Value} {base : Heap} {CX : CXT} {f : Addr} {fd : FuncData} {ps : List Str} {sp : Sp} {k : Nat} (F : FnG R P w K mg base CX f fd ps sp) (h : ∀ A, Room k A → R A) :
    FnOk P w K mg base CX k f fd ps sp := ⟨F.len, fun A outer s H args us vs Q E hr => F.run A outer s H args us vs Q E (h A hr)⟩
theorem FnG.imp {R R' : Around → Prop} {P : Program} {w : World} {K : PySem.W.Frag} {mg : Str → Option Value} {base : Heap} {CX : CXT} {f : Addr} {fd : FuncData} {ps : List Str} {sp sp' : Sp} (F : FnG R P w K mg base CX f fd ps sp) (h : ∀ A, R' A → R A) (hs : ∀ vs H Q E, sp' vs H Q E → sp vs H Q E) :
    FnG R' P w K mg base CX f fd ps sp' := ⟨fun vs H Q E q => F.len _ _ _ _ (hs vs H Q E q), fun A outer s H args us vs Q E hr e b v q => F.run A outer s H args us vs Q E (h A hr) e b v (hs _ _ _ _ q)⟩

/-- a def by its body, R around it, R' around its body -/
theorem fnG {R R' : Around → Prop} {P : Program} {w : World} {K : PySem.W.Frag} {mg : Str → Option Value} {base : Heap} {x qual : Str} {st : Stmt} {f : Addr} {fd : FuncData} {N ps : List Str} {sp : Sp} (F : Fun K x qual st f fd) (S : FnScope N ps (defScope st))
    (hR : ∀ A, R A → A.handled = none ∧ A.depth < recursionLimit) (hR' : ∀ A env, R A → R' (A.deeper env)) (len : ∀ vs H Q E, sp vs H Q E → vs.length = ps.length)
    (hbody : ∀ (cdv : Value) (A : Around) (outer : List Env) (s : Shared) (H : Hp) (vs : List V) (Q : VK) (E : XK), R' (A.deeper (envOfC qual (defScope st) s.heap.objs.size f cdv)) → sp vs H Q E →
      ∃ t, PSs (cxOf (L2.CX P w) P w K mg base N qual (defScope st) f cdv A outer s H E) (defBody st) t ∧ t { nx := fun _ H' => Q .non H', rt := Q } (start N vs) H) : FnG R P w K mg base (L2.CX P w) f fd ps sp := by
  obtain ⟨oc, od, kV, doc, pm, an, cdv, ct, osl, rfl, lk, hcd⟩ := F.ex
  refine ⟨len, fun A outer s H args us vs Q E hr e0 hb r hsp => ?_⟩
  obtain ⟨hh, hdep⟩ := hR A hr
  have inHeap : ∀ b o, base.get? b = some o → s.heap.get? b = some o := fun b o e => (e0.bs b o e).1
  have kin := e0.mod.kin.keeps inHeap
  have kinds : ∀ y ∈ ps.zip us, (defScope st).names.lookup y.1 = some .local ∨ ((defScope st).names.lookup y.1 = some .cell ∧ ((cellsFrom (s.heap.objs.size + 1) (defScope st).names []).lookup y.1).isSome = true) := by
    intro y hy
    have hm := (List.of_mem_zip (a := y.1) (b := y.2) hy).1
    exact (S.par y.1 hm).imp id fun q => ⟨q, PySem.W.cellsFrom_some _ _ _ (.inl q)⟩
  refine codeAny_call_function hdep (kin _ _ lk) rfl S.co S.gen rfl (PySem.W.codeRec_of kin hcd) (hb _ _ _ _ (wpAny_newFunctionEnv_cells S.kind kinds fun env he s1 x => ?_))
  subst he
  refine ⟨(e0.mod.nolimit.keeps inHeap).keeps x.toInCall.keep, codeAny_func ?_⟩
  obtain ⟨t, ht, hq⟩ := hbody cdv A outer s H vs Q E (hR' A _ hr) hsp
  refine wpAny_mono (ht.run [] s1 (start N vs) H _ (inv_start S hh e0 (len _ _ _ _ hsp) r x) hq) (fun fl s' hs => ?_) fun e s' hs => hs
  cases fl with
  | ret u =>
    obtain ⟨v, σ', H', J, rv, q⟩ := hs
    exact ⟨v, H', J.os, J.bare, J.base, J.hok, rv, q⟩
  | next =>
    obtain ⟨σ', H', J, q⟩ := hs
    exact ⟨V.non, H', J.os, J.bare, J.base, J.hok, rfl, q⟩
  | brk => exact hs.elim fun _ h => h.elim fun _ h => h.2.elim
  | cont => exact hs.elim fun _ h => h.elim fun _ h => h.2.elim

section
variable {X : Cx} {CX : CXT} {R : Around → Prop} {f C : Addr} {fd : FuncData} {ps : List Str} {sp : Sp} {E : L2.St → XK} {x m : Str} {p pos apos : Pos} {e o : Expr} {es : List Expr} {ta : TE} {t : TA}
theorem run_fnG {pins : List (Addr × Obj)} {σ : L2.St} {H : Hp} {s : Shared} {Q : VK} {us : List Value} {vs : List V} (F : FnG R X.prog X.w X.K X.mg X.base CX f fd ps sp) (hr : R X.A) (hb : Binds X.K fd ps []) (hx : PassesAt CX X σ (E σ))
    (I : Inv X pins σ H s) (r : Vals vs us) (h : sp vs H Q (E σ)) : wpAny (model X.prog X.w) X.A (call (.ref f) us) (EP X pins σ Q) X.xe s := by
  have hl : us.length = ps.length := r.length ▸ F.len _ _ _ _ h
  have b := hb s us I.kIn ((List.append_nil us).symm ▸ hl)
  rw [List.append_nil] at b
  refine wpAny_call (codeAny_mono (F.run X.A X.stack s H ⟨us, []⟩ us vs Q (E σ) hr I.env0 b r h) fun z s' hq => ?_)
  match z, hq with
  | .error e, hq => exact hx pins H s e s' I hq
  | .ok (.ret u), hq => exact I.after hq
/-- o.m(), what may be raised told by the slots -/
def tMethG (C : Addr) (m : Str) (sp : Sp) (E : L2.St → XK) (ta : TE) (t : TA) : TE := fun σ H Q => ta σ H fun x H1 => ∃ a dx fs, x = .ref a ∧ H1 a = some (.ins C dx fs) ∧ fs.lookup m = none ∧
  t σ H1 fun vs H2 => sp (x :: vs) H2 Q (E σ)
theorem pe_methG0 {pl : Sem Bool} (he : PE X o ta) (c : Cls X.K C) (hm : Meth X.K C m f) (F : FnG R X.prog X.w X.K X.mg X.base CX f fd ps sp) (hr : R X.A) (hb : Binds X.K fd ps []) (hx : ∀ σ, PassesAt CX X σ (E σ))
    (ht : eval (.Call (.Attribute o m apos) [] [] pos) X.env = (do
      let ov ← eval o X.env
      standAt apos.atName
      let (f, first) ← holding [ov] (getMethod ov m pl)
      callWith pos f first (backTo pos (starEach [] X.env)) (backToKw pos (keywordEach [] X.env))) := by rfl) :
    PE X (.Call (.Attribute o m apos) [] [] pos) (tMethG C m sp E ta tNil) := by
  refine ⟨fun pins s σ H Q I h => PySem.W.methodCall_KW (pl := pl) (thn (he.run pins s σ H _ I h) fun u s1 hu => ?_) ht⟩
  obtain ⟨y, H1, I1, ry, a, dx, fs, rfl, ea, l, q⟩ := hu
  obtain rfl : u = Value.ref a := ry
  exact getmeth_ok I1 ea c hm l (PySem.W.callWith_K0 (first := [.ref a]) I1.kIn hm.kp (run_fnG (us := [.ref a]) (vs := [.ref a]) F hr hb (hx σ) I1 (.cons rfl .nil) q))
theorem pe_methG {pl : Sem Bool} (he : PE X o ta) (c : Cls X.K C) (hm : Meth X.K C m f) (F : FnG R X.prog X.w X.K X.mg X.base CX f fd ps sp) (hr : R X.A) (hb : Binds X.K fd ps []) (hx : ∀ σ, PassesAt CX X σ (E σ)) (ha : PA X (e :: es) t)
    (hst : starEach (e :: es) X.env = (false, eval e X.env) :: starEach es X.env := by rfl) (hpl : (backTo pos (starEach es X.env)).any (·.1) = false := by rfl)
    (ht : eval (.Call (.Attribute o m apos) (e :: es) [] pos) X.env = (do
      let ov ← eval o X.env
      standAt apos.atName
      let (f, first) ← holding [ov] (getMethod ov m pl)
      callWith pos f first (backTo pos (starEach (e :: es) X.env)) (backToKw pos (keywordEach [] X.env))) := by rfl) :
    PE X (.Call (.Attribute o m apos) (e :: es) [] pos) (tMethG C m sp E ta t) := by
  refine ⟨fun pins s σ H Q I h => PySem.W.methodCall_KW (pl := pl) (thn (he.run pins s σ H _ I h) fun u s1 hu => ?_) ht⟩
  obtain ⟨y, H1, I1, ry, a, dx, fs, rfl, ea, l, q⟩ := hu
  obtain rfl : u = Value.ref a := ry
  refine getmeth_ok I1 ea c hm l (PySem.W.callWith_K (first := [.ref a]) (h₀ := X.base) I.ok.mod.kin hm.kp (thn (ha.run pos pins s1 σ H1 _ I1 q) fun us s2 hu2 => ?_) hst hpl)
  obtain ⟨vs, H2, I2, r, q2⟩ := hu2
  exact ⟨I2.kIn, run_fnG (us := .ref a :: us) (vs := .ref a :: vs) F hr hb (hx σ) I2 (.cons rfl r) q2⟩
end
theorem FnOk.g {P : Program} {w : World} {K : PySem.W.Frag} {mg : Str → Option Value} {base : Heap} {CX : CXT} {k : Nat} {f : Addr} {fd : FuncData} {ps : List Str} {sp : Sp} (F : FnOk P w K mg base CX k f fd ps sp) : FnG (Room k) P w K mg base CX f fd ps sp := ⟨F.len, F.run⟩
end LX

set_option Elab.async false
set_option linter.all false
set_option maxRecDepth 100000
set_option maxHeartbeats 4000000
namespace LX
open PySem PySem.Spec PyProof.Rows L2

/-! ### try with any clauses: 'except C: ..' and 'except C as n: ..' -/
structure Cl where
  cls : Value
  slot : Option Nat
  ts : Addr → Value → Option Addr → TS
/-- the ends of a suite that has a name: its slot is emptied -/
def endsAs (i : Nat) (D : Ends) : Ends := { nx := fun σ H => D.nx (σ.set i none) H, rt := D.rt, bk := fun σ H => D.bk (σ.set i none) H, ct := fun σ H => D.ct (σ.set i none) H }
def Cl.wish (c : Cl) (D : Ends) (cls : Value) (d : Option Addr) (σ : L2.St) (H : Hp) : Prop :=
  ∀ a, H a = none → match c.slot with
    | none => c.ts a cls d D σ H
    | some i => c.ts a cls d (endsAs i D) (σ.set i (some (.ref a))) H
def wCl (K : PySem.W.Frag) (W : WX) (D : Ends) : List Cl → WX
  | [] => W
  | c :: r => fun cls d σ H => ∃ b, PySem.W.exmOne K cls c.cls = some b ∧ (b = true → c.wish D cls d σ H) ∧ (b = false → wCl K W D r cls d σ H)
/-- a suite's body, by its reading -/
def SuiteOk (X : Cx) (suite : List Stmt) (ts : Addr → Value → Option Addr → TS) : Prop :=
  ∀ (a : Addr) (oe : Obj) (cls : Value) (d : Option Addr) (pn : List (Addr × Obj)), Zc cls d oe → (∃ vs, oe.data = .fields vs) → PSs (X.suite a ((a, oe) :: pn)) suite (ts a cls d)
inductive ClsOk (X : Cx) : List ExceptHandler → List Cl → Prop
  | nil : ClsOk X [] []
  | plain {x : Str} {c : Value} {ts} {b₀ : Stmt} {suite : List Stmt} {np pos : Pos} {hds l} (hc : Names X x c) (hs : SuiteOk X (b₀ :: suite) ts) (r : ClsOk X hds l) :
      ClsOk X (.ExceptHandler (some (.Name x np)) none (b₀ :: suite) pos :: hds) (⟨c, none, ts⟩ :: l)
  | named {x n : Str} {i : Nat} {c : Value} {ts} {b₀ : Stmt} {suite : List Stmt} {np pos : Pos} {hds l} (hN : X.N.Nodup) (hi : X.N[i]? = some n) (hn : X.env.kindOf n = some .local) (hc : Names X x c) (hs : SuiteOk X (b₀ :: suite) ts) (r : ClsOk X hds l) :
      ClsOk X (.ExceptHandler (some (.Name x np)) (some n) (b₀ :: suite) pos :: hds) (⟨c, some i, ts⟩ :: l)

/-- the exception at a is down in the frame of X, over the ground B; sI: the state without it -/
structure Down (X : Cx) (pins : List (Addr × Obj)) (σ : L2.St) (H : Hp) (a : Addr) (B : Heap) (sI s : Shared) (cls : Value) (d : Option Addr) : Prop where
  J : Inv X pins σ H sI
  nb : ∀ b o, sI.heap.get? b = some o → b ∉ frs X.stack → B.get? b = some o
  up : sI.heap.UpToSlots s.heap
  fl : HandSPX.FlyingZ B (X.env :: X.outer) a (Zc cls d) s.heap
  na : H a = none
  os : s.os = sI.os
  ag : AllBare s.gens
section
variable {X : Cx} {pins : List (Addr × Obj)} {σ : L2.St} {H : Hp} {a : Addr} {B : Heap} {sI s : Shared} {cls : Value} {d : Option Addr}
theorem Down.there (Z : Down X pins σ H a B sI s cls d) : ∃ oe vs, s.heap.get? a = some oe ∧ Zc cls d oe ∧ oe.data = .fields vs := Z.fl.there
theorem Down.land (Z : Down X pins σ H a B sI s cls d) : Inv X pins σ H s := Z.J.landed Z.nb Z.fl.1 Z.up Z.os Z.ag
theorem Down.off (Z : Down X pins σ H a B sI s cls d) : a ∉ frs (X.env :: X.outer) := fun hm => by
  obtain ⟨oe, vs, e, _, dd⟩ := Z.there
  obtain ⟨_, o, e', h⟩ := Z.fl.2.2.1.mem hm
  cases e.symm.trans e'
  exact h _ dd
theorem Down.suite (Z : Down X pins σ H a B sI s cls d) (hf : X.env.frame = some X.env.locals) : ∃ oe, Zc cls d oe ∧ (∃ vs, oe.data = .fields vs) ∧ s.heap.get? a = some oe ∧ Inv (X.suite a ((a, oe) :: (X.pn ++ pins))) [] σ H s := by
  obtain ⟨oe, vs, e, hz, dd⟩ := Z.there
  refine ⟨oe, hz, ⟨vs, dd⟩, e, Z.land.suite e dd Z.na (fun q => ?_) fun hm => ?_⟩
  · exact Z.off (List.mem_filterMap.mpr ⟨X.env, List.mem_cons_self, by rw [hf, q]⟩)
  · obtain ⟨env, he, q⟩ := List.mem_filterMap.mp hm
    exact Z.off (List.mem_filterMap.mpr ⟨env, List.mem_cons_of_mem _ he, q⟩)
theorem Down.again (Z : Down X pins σ H a B sI s cls d) {h : Heap} (fl : HandSPX.FlyingZ B (X.env :: X.outer) a (Zc cls d) h) (up : s.heap.UpToSlots h) : Down X pins σ H a B sI { s with heap := h } cls d :=
  ⟨Z.J, Z.nb, Z.up.trans up, fl, Z.na, Z.os, Z.ag⟩
/-- what names the class is asked -/
theorem Down.named (Z : Down X pins σ H a B sI s cls d) (hf : X.env.frame = some X.env.locals) {x : Str} {c : Value} {np : Pos} {b : Bool} (hc : Names X x c) (hb : PySem.W.exmOne X.K cls c = some b) {R : Bool → Shared → Prop} {E : Value → Shared → Prop} {E2 : Shared → Value → Shared → Prop}
    (h : R b s) :
    wpAny (model X.prog X.w) (X.A.mark (some (.ref a))) (eval (.Name x np) X.env) (fun c s₁ => wpAny (model X.prog X.w) (X.A.mark (some (.ref a))) (excMatches (.ref a) c) R (E2 s₁) s₁) E s := by
  obtain ⟨oe, hz, _, e, S⟩ := Z.suite hf
  have LT : PySem.W.Looks (model X.prog X.w) s.heap (typeOf (.ref a)) cls := fun A Q E s k q => wpAny_typeOf_ref (k _ _ e) (by rw [hz.1]; exact q)
  have L := PySem.W.exm_one (M := model X.prog X.w) Z.land.kIn LT hb
  obtain ⟨hg, hdb, hm | ⟨hm, hv, hn⟩⟩ := hc
  · exact ld_glob (X := X.suite a ((a, oe) :: (X.pn ++ pins))) S hg hm (L.here h) hdb
  · exact ld_blt (X := X.suite a ((a, oe) :: (X.pn ++ pins))) S hg hm hv (L.here h) hn hdb
/-- the clauses one after the other -/
theorem clauses (hs : X.stack = X.env :: X.outer) (hf : X.env.frame = some X.env.locals) {W : WX} (tk : Takes X W) {D : Ends} {hds : List ExceptHandler} {l : List Cl} (hk : ClsOk X hds l) :
    ∀ {s : Shared}, Down X pins σ H a B sI s cls d → wCl X.K W D l cls d σ H → wpAny (model X.prog X.w) X.A (handleBy (.ref a) X.env hds) (SP X pins D) X.xe s := by
  induction hk with
  | nil =>
    intro s Z w
    refine wpAny_handleBy_nil ?_
    obtain ⟨k1, k2, k3, oe, vs, T, oT, ts', he, hz, hd, h1, hr⟩ := id Z.fl
    unfold PySem.passOn
    refine wpAny_bind (wpAny_field he hd h1 ?_)
    rw [if_neg (show ¬ ((Value.ref T == Value.none) = true) from by simp)]
    have fin : wpAny (model X.prog X.w) X.A (setFlight (.ref a) X.env.frame) (fun _ s4 => wpAny (model X.prog X.w) X.A (throw (.ref a) : Sem Flow) (SP X pins D) X.xe s4) X.xe s := by
      rw [hf]
      refine HandSPX.setFlight_upZ Z.fl fun h4 hh4 up4 => wpAny_throw (tk _ _ ?_)
      exact ⟨a, B, sI, pins, σ, H, cls, d, rfl, Z.J, Z.nb, Z.up.trans up4, .inr (.inr (by rw [hs]; exact hh4)), Z.na, Z.os, Z.ag, w⟩
    first
      | exact wpAny_bind (wpAny_pure (wpAny_bind fin))
      | exact wpAny_bind fin
  | @plain x c ts b₀ suite np pos hds l hc hsu r ih =>
    rintro s Z ⟨b, hb, yes, no⟩
    refine wpAny_handleBy_cons (codeAny_handlers_test (Z.named (E2 := fun _ => _) hf hc hb ?_)) (by intro q; cases q)
    cases b with
    | false => exact ih Z (no rfl)
    | true =>
      refine codeAny_handlers_suite (HandSPX.lands_againZ Z.fl fun h4 fl4 up4 => ?_)
      have Z4 := Z.again fl4 up4
      obtain ⟨oe, hz, hv, _, S⟩ := Z4.suite hf
      refine wpAny_mono ((hsu a oe cls d _ hz hv).run [] _ _ H _ S (yes rfl a Z.na)) (fun f s6 q => ?_) fun _ _ z => False.elim z
      have ok := Z.J.ok
      match f, q with
      | .next, ⟨σ6, H6, S6, q6⟩ => exact ⟨σ6, H6, S6.unsuite ok, q6⟩
      | .brk, ⟨σ6, H6, S6, q6⟩ => exact ⟨σ6, H6, S6.unsuite ok, q6⟩
      | .cont, ⟨σ6, H6, S6, q6⟩ => exact ⟨σ6, H6, S6.unsuite ok, q6⟩
      | .ret u, ⟨v6, σ6, H6, S6, r6, q6⟩ => exact ⟨v6, σ6, H6, S6.unsuite ok, r6, q6⟩
  | @named x n i c ts b₀ suite np pos hds l hN hi hn hc hsu r ih =>
    rintro s Z ⟨b, hb, yes, no⟩
    refine wpAny_handleBy_cons (codeAny_handlers_test (Z.named (E2 := fun _ => _) hf hc hb ?_)) (by intro q; cases q)
    cases b with
    | false => exact ih Z (no rfl)
    | true =>
      refine codeAny_handlers_suite_as (HandSPX.lands_againZ Z.fl fun h4 fl4 up4 => ?_)
      have Z4 := Z.again fl4 up4
      obtain ⟨oe, hz, hv, _, S⟩ := Z4.suite hf
      refine store_ok (X := X.suite a ((a, oe) :: (X.pn ++ pins))) (v := .ref a) S hN hi (.inl hn) rfl (fun s5 S5 => ?_) (.inr hn)
      refine wpAny_mono ((hsu a oe cls d _ hz hv).run [] s5 _ H (endsAs i D) S5 (yes rfl a Z.na)) (fun f s6 q => ?_) fun _ _ z => False.elim z
      have ok := Z.J.ok
      have gone : ∀ {σ6 : L2.St} {H6 : Hp} {Q : Shared → Prop}, Inv (X.suite a ((a, oe) :: (X.pn ++ pins))) [] σ6 H6 s6 → (∀ s7, Inv X pins (σ6.set i none) H6 s7 → Q s7) →
          wpAny (model X.prog X.w) X.A (do bindName X.env n .none; unbindBehindTheSuite X.env n pos) (fun _ s7 => Q s7) X.xe s6 := fun S6 hq => gone_ok (S6.unsuite ok) hN hi hn hq
      match f, q with
      | .next, ⟨σ6, H6, S6, q6⟩ => exact gone S6 fun s7 J7 => ⟨_, _, J7, q6⟩
      | .brk, ⟨σ6, H6, S6, q6⟩ => exact gone S6 fun s7 J7 => ⟨_, _, J7, q6⟩
      | .cont, ⟨σ6, H6, S6, q6⟩ => exact gone S6 fun s7 J7 => ⟨_, _, J7, q6⟩
      | .ret u, ⟨v6, σ6, H6, S6, r6, q6⟩ => exact gone S6 fun s7 J7 => ⟨_, _, _, J7, r6, q6⟩
end
def tTry (K : PySem.W.Frag) (W : WX) (l : List Cl) (tb : WX → TS) : TS := fun D σ H => tb (wCl K W D l) D σ H
theorem ps_try {X : Cx} {body : List Stmt} {h₀ : ExceptHandler} {hds : List ExceptHandler} {l : List Cl} {pos : Pos} {tb : WX → TS} {W : WX} (hs : X.stack = X.env :: X.outer) (hf : X.env.frame = some X.env.locals) (tk : Takes X W)
    (hb : ∀ (W : WX) (pn : List (Addr × Obj)) (xe : Value → Shared → Prop), Takes (X.tr pn xe) W → PassesOwn (model X.prog X.w) X.A X.env xe → PSs (X.tr pn xe) body (tb W)) (hh : ClsOk X (h₀ :: hds) l) :
    PS X (.Try body (h₀ :: hds) [] [] pos) (tTry X.K W l tb) := by
  refine ⟨fun pins s σ H D I h => wpAny_Try_except ?_⟩
  have ok := I.ok
  have body := (hb (wCl X.K W D l) (X.pn ++ pins) (fun e s₁ => wpAny (model X.prog X.w) X.A (noteFrame e X.env) (fun _ s₂ => wpAny (model X.prog X.w) X.A (setFlight e none) (fun _ s₃ =>
    wpAny (model X.prog X.w) X.A (handleBy e X.env (h₀ :: hds)) (SP X pins D) X.xe s₃) X.xe s₂) X.xe s₁) (fun u s' xx => by
      obtain ⟨a, B, sI, pins', σ', H', cls, d, rfl, J', nb, up, sky, na, os, ag, w⟩ := xx
      have sky' : Sky B (X.env :: X.outer) a (Zc cls d) X.env.locals s'.heap := hs ▸ sky
      exact Sky.land Zc.steady (by rw [ok.frames, hs]) hf sky' fun h3 fl3 up3 => clauses hs hf tk hh (s := { s' with heap := h3 }) ⟨J'.ofTry ok, nb, up.trans up3, fl3, na, os, ag⟩ w) PassesOwn.looking).run [] s σ H D (I.toTry _) h
  refine wpAny_mono body (fun f s1 q => ?_) fun e s1 he => he
  match f, q with
  | .next, ⟨σ', H', J', q⟩ => exact wpAny_execs_nil ⟨σ', H', J'.ofTry ok, q⟩
  | .brk, ⟨σ', H', J', q⟩ => exact ⟨σ', H', J'.ofTry ok, q⟩
  | .cont, ⟨σ', H', J', q⟩ => exact ⟨σ', H', J'.ofTry ok, q⟩
  | .ret u, ⟨v, σ', H', J', r, q⟩ => exact ⟨v, σ', H', J'.ofTry ok, r, q⟩

/-! ### raise C(e) of an own class with one field f -/
/-- self.f = e, the promise of such an __init__ -/
def spInit1 (K : PySem.W.Frag) (C : Addr) (f : Str) : Sp := fun vs H Q _ => ∃ (a : Addr) (y : V), vs = [.ref a, y] ∧ OexC K C ∧ PySem.W.findIn K (.ref C) f = some none ∧ H a = some (exo a C none) ∧
  ∀ dx, H dx = none → dx ≠ a → Q .non (upd (upd H dx (exd dx [(f, y)])) a (exo a C (some dx)))
def tRaise1 (C : Addr) (f : Str) (W : WX) (te : TE) : TS := fun _ σ H => te σ H fun y H1 => ∀ d, H1 d = none → W (.ref C) (some d) σ (upd H1 d (.xd [(f, y)]))
theorem spInit1_mk {K : PySem.W.Frag} {C : Addr} {f : Str} {te : TE} {σ : L2.St} {H : Hp} {Q : XK} (T : OexC K C) (no : PySem.W.findIn K (.ref C) f = some none) (h : te σ H fun y H1 => ∀ d, H1 d = none → Q (.ref C) (some d) (upd H1 d (.xd [(f, y)])))
    (mono : ∀ Q Q' : VK, (∀ v H, Q v H → Q' v H) → te σ H Q → te σ H Q') : tMkO C (spInit1 K C f) [] (tCons te tNil) σ H Q := by
  refine mono _ _ (fun y H1 q => ?_) h
  refine ⟨by simp, fun a ha => ⟨a, y, rfl, T, no, upd_same, fun dx hd ne => ⟨rfl, dx, [(f, y)], upd_same, ?_, ?_, ?_⟩⟩⟩
  · rw [upd_ne ne, upd_same]
  · rw [upd_ne ne] at hd; exact hd
  · rw [upd_ne ne] at hd
    have e : del (upd (upd (upd H1 a (exo a C none)) dx (exd dx [(f, y)])) a (exo a C (some dx))) a = upd H1 dx (exd dx [(f, y)]) := by
      funext b
      by_cases hb : b = a
      · rw [hb, del_same, upd_ne (Ne.symm ne), ha]
      · rw [del_ne hb, upd_ne hb]
        by_cases hb2 : b = dx
        · rw [hb2, upd_same, upd_same]
        · rw [upd_ne hb2, upd_ne hb2, upd_ne hb]
    rw [e, upd_upd]
    exact q dx hd
/-- what is known of an own exception class whose __init__ stores one field -/
structure Exc1 (X : Cx) (x : Str) (C : Addr) (f : Str) (fI : Addr) (fd : FuncData) (ps : List Str) : Prop where
  T : OexC X.K C
  no : PySem.W.findIn X.K (.ref C) f = some none
  iC : PySem.W.findIn X.K (.ref C) "__init__" = some (some (.ref fI))
  tI : PySem.W.typeIn X.K (.ref fI) = some (.type "function")
  F : FnOk X.prog X.w X.K X.mg X.base (L2.CX X.prog X.w) 1 fI fd ps (spInit1 X.K C f)
  b : Binds X.K fd ps []
  gC : X.mg x = some (.ref C)
theorem ps_raise1 {X : Cx} {x f : Str} {C fI : Addr} {fd : FuncData} {ps : List Str} {W : WX} {e : Expr} {te : TE} {p pos pos' : Pos} (T : Exc1 X x C f fI fd ps) (hr : Room 2 X.A) (hc : X.calm = true) (tk : Takes X W) (hg : Gl X x) (he : PE X e te)
    (mono : ∀ σ H (Q Q' : VK), (∀ v H, Q v H → Q' v H) → te σ H Q → te σ H Q')
    (hdb : (x == ("__debug__" : Str)) = false := by decide) (hst : starEach [e] X.env = (false, eval e X.env) :: starEach [] X.env := by rfl) (hpl : (backTo pos (starEach [] X.env)).any (·.1) = false := by rfl) :
    PS X (.Raise (some (.Call (.Name x p) [e] [] pos)) none pos') (tRaise1 C f W te) := by
  have mk : PMk X (.Call (.Name x p) [e] [] pos) (tMkO C (spInit1 X.K C f) [] (tCons te tNil)) := pmk_oex (ds := []) T.T T.iC T.tI T.F hr T.b .nil passL hg T.gC (pa_cons he pa_nil hst) hdb hst hpl
  have r := ps_raise (pos := pos') hc tk mk
  exact ⟨fun pins s σ H D I h => r.run pins s σ H D I (spInit1_mk T.T T.no h (mono σ H))⟩
end LX

set_option Elab.async false
set_option linter.all false
set_option maxRecDepth 100000
set_option maxHeartbeats 4000000
namespace LX
open PySem PySem.Spec PyProof.Rows L2

/-! ### an iterator whose items do not change, each in a new tuple -/
def Itn (n : Nat) (ys : Nat → List V) : It := ⟨fun i _ => i < n, fun i H v H' => ∃ T, v = .ref T ∧ H T = none ∧ H' = upd H T (.tup (ys i)), fun i _ => i = n⟩
theorem turn_new {P : Program} {w : World} {K : PySem.W.Frag} {tg : Expr} {it : Addr} {fp wr : List Addr} {n : Nat} {ys : Nat → List V} {Y : Nat → Heap → Value → Heap → Prop} {tn : Nat → Heap → Prop}
    (G : ∀ A : Around, A.handled = none → GoesN P w A tg it fp wr n Y tn) (mem : it ∈ fp) (obj : ∀ i h, tn i h → ∀ b ∈ fp, ∃ o, h.get? b = some o ∧ ∀ v, o.data ≠ .cell v) (sz : ∀ i, (ys i).length ≤ sizeLine)
    (y : ∀ i h₀ v h, i < n → Y i h₀ v h → ∃ T us, v = .ref T ∧ h₀.objs.size ≤ T ∧ IsTup h T us.toArray ∧ Vals (ys i) us) (lt : ∀ i h, tn i h → ∀ b ∈ fp, b < h.objs.size)
    (self : ∀ (A : Around) (i : Nat) (s : Shared) (Q : Value → Shared → Prop) (E : Value → Shared → Prop), tn i s.heap → Q (.ref it) s → wpAny (model P w) A (pyIter (.ref it)) Q E s) : Turn P w K tg (Itn n ys) fp it tn where
  mem := mem
  obj := obj
  keep := fun i h h' st k => (G callerA rfl).frame i h h' st k
  item := by
    intro X hP hw hK hc i pins s σ H E I hf st hg
    subst hP hw hK
    refine (G X.A (I.ok.hd hc)).goes i s _ _ hg st fun v h' tk hY st' hk htk => ?_
    obtain ⟨T, us, rfl, hT, tup, rv⟩ := y i s.heap v h' hg hY
    have J := I.turnedNew (h' := h') (t' := tk) (ch := wr) (T := T) (ob := .tup (ys i)) hk (fun b hb => hf b ((G X.A (I.ok.hd hc)).sub b hb)) hT ⟨sz i, us, rv, tup⟩
    refine ⟨.ref T, _, J, rfl, ⟨T, rfl, I.hok.fresh hT, rfl⟩, st', fun b hb => ?_⟩
    rw [upd_ne (Nat.ne_of_lt (Nat.lt_of_lt_of_le (lt i _ st b hb) hT))]
    exact (hf b hb).1
  done := by
    intro X hP hw hK hc i pins s σ H E I hf st hg
    subst hP hw hK
    have e : i = n := hg
    subst e
    refine (G X.A (I.ok.hd hc)).stops s _ _ st fun h' tk hk htk => ?_
    have sub := (G X.A (I.ok.hd hc)).sub
    refine I.step (g' := s.gens) (t' := tk) (d' := s.drawn) (ch := wr) (fun b hb => ?_) (fun b o _ _ hb e _ => hk b o hb e) (fun b o _ _ hb e _ => ⟨o.slots, hk b o hb e⟩) (fun _ _ _ _ z => z) (fun b o hb e => ⟨o, hk b o hb e⟩) (fun _ _ z => z) (fun _ _ _ z => z)
      (fun b ps z => ⟨#[], by rw [z]; simp⟩) (fun m hm => ?_) (fun b o e => ?_) I.bare
    · obtain ⟨f0, f1, f2, f3, f4, f5⟩ := hf b (sub b hb)
      exact ⟨f3, f1, f4, f5⟩
    · obtain ⟨o, es, ep, ho, r⟩ := hm
      exact ⟨o, es, ep, hk _ o (fun z => (hf _ (sub _ z)).2.1 rfl) ho, r⟩
    · refine (I.hok b o e).stay (fun c v hc z => hk c v (fun hm => ?_) z) (fun _ z => z) fun _ _ z => z
      have fr := (hf c (sub c hm)).1
      rcases hc with hc | hc
      · rw [hc, e] at fr
        cases fr
      · rw [hc] at fr
        cases fr
  self := self

/-! ### enumerate(text) -/
def sign (c : Nat) : Str := ⟨#[c]⟩
def iEnumS (ta : TA) : TI := fun σ H R => ta σ H fun vs H1 => ∃ x, vs = [.str x] ∧ R (Itn x.cps.size fun i => [.int (i : Nat), .str (sign (x.cps.getD i 0))]) H1
theorem pi_enumS {X : Cx} {e : Expr} {ta : TA} {p pos tpos : Pos} {elts : List Expr} {kk : Nat} (hc : X.calm = true) (hg : Gl X "enumerate") (hm : X.mg "enumerate" = none) (ha : PA X [e] ta) (hs : starEach [e] X.env = [(false, eval e X.env)] := by rfl) :
    PI X (.Tuple elts kk tpos) (.Call (.Name "enumerate" p) [e] [] pos) (iEnumS ta) := by
  refine ⟨fun pins s σ H R I h => Call_ (ld_blt I hg hm boot_enumerate (PyProof.Rows.callWith_type1 (thn (ha.run pos pins s σ H _ I h) fun us s1 hu => ?_) hs rfl))⟩
  · obtain ⟨vs, H1, I1, r1, x, rfl, q⟩ := hu
    obtain ⟨u, rfl, t, rfl⟩ := vals1 r1
    refine PySem.call_enumerate_str fun h' he hit hsz hk => wpAny_pyIter_enum he ?_
    have I2 : Inv X pins σ H1 { s1 with heap := h' } := I1.kept (t' := s1.toks) hk
    refine ⟨s1.heap.objs.size + 1, [s1.heap.objs.size + 1, s1.heap.objs.size], _, _, H1, rfl, I2, turn_new (wr := [s1.heap.objs.size + 1, s1.heap.objs.size]) (fun A hA => GoesN.enumFrom 0 (Draws.text (prog := X.prog) (w := X.w) (A := A.in1) hA s1.heap.objs.size x t) (s1.heap.objs.size + 1) (Nat.succ_ne_self _) (by simp) (by simp)) (by simp)
      (fun i h st b hb => ?_) (fun i => by show 2 ≤ sizeLine; decide) (fun i h₀ v h hi hy => ?_) (fun i h st b hb => ?_) (fun A i s Q E st hq => ?_), ⟨⟨.none, by simpa using he⟩, hit⟩, fun b hb => ?_, q⟩
    · obtain ⟨⟨old, e1⟩, o, e2, c2, d2⟩ := st
      have hb' : b = s1.heap.objs.size + 1 ∨ b = s1.heap.objs.size := by simpa using hb
      rcases hb' with z | z
      · rw [z]; exact ⟨_, e1, fun v q => nomatch q⟩
      · rw [z]; exact ⟨o, e2, fun v q => by rw [d2] at q; cases q⟩
    · obtain ⟨T, t, x', rfl, hT, ⟨c, u, hc, rfl⟩, tup⟩ := hy
      refine ⟨T, _, rfl, hT, tup, .cons ⟨t, ?_⟩ (.cons ⟨u, ?_⟩ .nil)⟩
      · have : (0 : Int) + (i : Int) = (i : Int) := by omega
        rw [this]
      · have : x.cps.getD i 0 = c := by rw [Array.getD_eq_getD_getElem?, hc]; rfl
        rw [this]; rfl
    · obtain ⟨⟨old, e1⟩, o, e2, c2, d2⟩ := st
      have hb' : b = s1.heap.objs.size + 1 ∨ b = s1.heap.objs.size := by simpa using hb
      rcases hb' with z | z
      · rw [z]; exact Heap.lt_size e1
      · rw [z]; exact Heap.lt_size e2
    · obtain ⟨⟨old, e1⟩, _⟩ := st
      exact wpAny_pyIter_enum e1 hq
    · have hb' : b = s1.heap.objs.size + 1 ∨ b = s1.heap.objs.size := by simpa using hb
      have hle : s1.heap.objs.size ≤ b := by
        rcases hb' with z | z
        · rw [z]; exact Nat.le_succ _
        · rw [z]; exact Nat.le_refl _
      exact I1.fpOk hle (I1.hok.fresh hle)
end LX

set_option Elab.async false
set_option linter.all false
set_option maxRecDepth 100000
set_option maxHeartbeats 4000000
namespace LX
open PySem PySem.Spec PyProof.Rows L2

/-! ### texts as lists of codes -/
def S (l : List Nat) : Str := ⟨l.toArray⟩
theorem S_len (l : List Nat) : (S l).length = l.length := by show l.toArray.size = _; simp
theorem S_cps (l : List Nat) : (S l).cps.toList = l := by show l.toArray.toList = l; simp
theorem S_of (x : Str) : x = S x.cps.toList := by cases x; simp [S]
theorem S_inj {a b : List Nat} (h : S a = S b) : a = b := by
  have := congrArg (fun x : Str => x.cps.toList) h
  simpa [S] using this
theorem S_app (a b : List Nat) : S a ++ S b = S (a ++ b) := by
  show (⟨a.toArray ++ b.toArray⟩ : Str) = ⟨(a ++ b).toArray⟩
  simp
theorem S_sign (c : Nat) : (⟨#[c]⟩ : Str) = S [c] := rfl
theorem S_cut (l : List Nat) (lo hi : Option Int) : cutS (S l) lo hi = S ((l.drop (HT.sIx l.length 0 lo)).take (HT.sIx l.length l.length hi - HT.sIx l.length 0 lo)) := by
  unfold cutS
  rw [S_len, S_cps]
  rfl
theorem S_dec (a b : List Nat) : decide (V.str (S a) = V.str (S b)) = decide (a = b) := by
  by_cases h : a = b
  · subst h; simp
  · rw [decide_eq_false h, decide_eq_false fun q => h (S_inj (V.str.inj q))]
theorem line1000 {n : Nat} (h : n ≤ 16000000) : n ≤ sizeLine := by rw [sizeLine_eq]; omega

section
variable {X : Cx}
/-! ### a list + a list, each only read -/
def rCatS (K : PySem.W.Frag) : R2 := fun x y H Q => ∃ l b xs zs, x = .ref l ∧ y = .ref b ∧ SqL K H l xs ∧ SqL K H b zs ∧ xs.length + zs.length ≤ sizeLine ∧ ∀ p, H p = none → Q (.ref p) (upd H p (.lst (xs ++ zs)))
theorem op_catS : OpR X (binaryOp .Add) (rCatS X.K) := by
  intro pins s σ H x y v u Q I rx ry h
  obtain ⟨l, b, xs, zs, rfl, rfl, hx, hz, hl, q⟩ := h
  cases rx
  cases ry
  obtain ⟨its, r, pl, _⟩ := I.list hx
  obtain ⟨its2, r2, pl2, _⟩ := I.list hz
  have e1 := r.length
  have e2 := r2.length
  obtain ⟨⟨c1, d1, t1, s1⟩, n1, g1, rfl, _, rfl⟩ := pl
  obtain ⟨⟨c2, d2, t2, s2⟩, n2, g2, rfl, _, rfl⟩ := pl2
  refine concat_meets ⟨_, g1, rfl⟩ ⟨_, g2, rfl⟩ noFill_list_add seq_list_add PySem.F.slot_list_add PySem.F.entry_list_add (PySem.F.args_list_add_2 _ _) (list_addW l b its.toArray its2.toArray n1 n2 d1 d2 s1 s2 (by simp; omega)) ⟨g1, g2, ?_⟩
  have ea : its.toArray ++ its2.toArray = (its ++ its2).toArray := by simp
  rw [ea]
  exact ⟨.ref _, _, I.lnew (t' := s.toks) (r.append r2) (by rw [List.length_append]; omega), rfl, q _ I.fresh⟩
/-! ### a text times an int -/
def rRepS : R2 := fun x y H Q => ∃ z k, x = .str z ∧ y = .int k ∧ 0 ≤ k ∧ k < 2 ^ 40 ∧ z.length * k.toNat ≤ sizeLine ∧ Q (.str (S (List.replicate k.toNat z.cps.toList).flatten)) H
theorem rep_arr (a : Array Nat) : ∀ k : Nat, (List.replicate k a).foldl (· ++ ·) #[] = ((List.replicate k a.toList).flatten).toArray := by
  have gen : ∀ (k : Nat) (b : List Nat), (List.replicate k a).foldl (· ++ ·) b.toArray = (b ++ (List.replicate k a.toList).flatten).toArray := by
    intro k
    induction k with
    | zero => intro b; simp
    | succ k ih =>
      intro b
      rw [List.replicate_succ, List.foldl_cons, List.replicate_succ, List.flatten_cons, ← List.append_assoc, ← ih]
      congr 1
      apply Array.toList_inj.mp
      simp
  intro k
  have := gen k []
  simpa using this
theorem op_repS : OpR X (binaryOp .Mult) rRepS := by
  intro pins s σ H x y v u Q I rx ry h
  obtain ⟨z, k, rfl, rfl, h0, h1, hz, q⟩ := h
  obtain ⟨t, rfl⟩ := rx
  obtain ⟨t', rfl⟩ := ry
  have hl := sizeLine_eq
  have hzl : z.length = z.cps.toList.length := by show z.cps.size = _; simp
  refine PySem.P.mul_str ?_ (fun hk _ => ?_) (fun hk _ => ?_) ?_
  · have a1 : ¬ k < -(2 ^ 63 : Int) := by omega
    have a2 : ¬ k ≥ 2 ^ 63 := by omega
    rw [decide_eq_false a1, decide_eq_false a2]; rfl
  · have hk1 : 0 < k := by omega
    have hm : (z.length : Int) * k ≤ 2 ^ 63 - 1 := by
      have : ((z.length * k.toNat : Nat) : Int) ≤ 16777216 := by omega
      rw [Int.natCast_mul, Int.toNat_of_nonneg h0] at this
      omega
    have : (z.length : Int) ≤ (2 ^ 63 - 1) / k := (Int.le_ediv_iff_mul_le hk1).mpr hm
    omega
  · exact decide_eq_false (Nat.not_lt_of_le hz)
  · by_cases hk : k < 1
    · rw [if_pos hk]
      have : k.toNat = 0 := by omega
      rw [this] at q
      exact ⟨by decide, .str _, H, I.tok _, ⟨_, rfl⟩, q⟩
    · rw [if_neg hk]
      by_cases hb : (k == 1 || z.length == 0) = true
      · rw [if_pos hb]
        have e : (List.replicate k.toNat z.cps.toList).flatten = z.cps.toList := by
          rcases Bool.or_eq_true _ _ |>.mp hb with hb | hb
          · have : k = 1 := by simpa using hb
            subst this
            simp
          · have : z.cps.toList = [] := List.eq_nil_of_length_eq_zero (by rw [← hzl]; simpa using hb)
            rw [this]; simp
        rw [e, ← S_of z] at q
        exact ⟨.str z, H, I, ⟨t, rfl⟩, q⟩
      · rw [if_neg hb, rep_arr]
        refine ⟨?_, .str _, H, I.tok _, ⟨_, rfl⟩, q⟩
        show ((List.replicate k.toNat z.cps.toList).flatten).toArray.size ≤ sizeLine
        rw [List.size_toArray, PyProof.Rows.lm_len_rep_flat, ← hzl, Nat.mul_comm]
        exact hz
/-! ### o.f among several targets -/
def gFld (K : PySem.W.Frag) (to : TE) (f : Str) : TG := fun v σ H Q => to σ H fun x H1 => ∃ a C dx fs, x = .ref a ∧ H1 a = some (.ins C dx fs) ∧ Cls K C ∧ NoAttr K C f ∧ fs.length < 1000 ∧ Q σ (upd H1 a (.ins C dx (putF f v fs)))
theorem pg_fld {o : Expr} {f : Str} {to : TE} {pos : Pos} (ho : PE X o to) : PG X (.Attribute o f pos) (gFld X.K to f) := by
  refine ⟨fun pins s σ H v u Q I r h => ?_⟩
  rw [assign_Attribute]
  refine wpAny_bind (wpAny_holding (thn (ho.run pins s σ H _ I h) fun ov s1 hu => ?_))
  obtain ⟨x, H1, I1, r1, a, C, dx, fs, rfl, ea, c, n, l, q⟩ := hu
  obtain rfl : ov = Value.ref a := r1
  refine wpAny_bind (wpAny_standAt (wpAny_bind (wpAny_holding (setattr_ok I1 ea c n l r fun s2 I2 => ?_))))
  exact wpAny_release ⟨σ, _, I2, q⟩
end
end LX

set_option Elab.async false
set_option linter.all false
set_option maxRecDepth 100000
set_option maxHeartbeats 4000000
namespace LX
open PySem PySem.Spec PyProof.Rows L2

/-! ### operations by name -/
def rAddI : R2 := rI0 fun i j => .int (i + j)
def rSubI : R2 := rI0 fun i j => .int (i - j)
def rMulI : R2 := rI CMul fun i j => .int (i * j)
def rDivI : R2 := rI CDiv fun i j => .int (i / j)
def CPos (_ j : Int) : Prop := 0 < j
def rModI : R2 := rI CPos fun i j => .int (i % j)
def rPowI : R2 := rI CPow fun i j => .int (i ^ j.toNat)
def rLtI : R2 := rI0 fun i j => .bl (decide (i < j))
def rLeI : R2 := rI0 fun i j => .bl (decide (i ≤ j))
def rGtI : R2 := rI0 fun i j => .bl (decide (j < i))
def rGeI : R2 := rI0 fun i j => .bl (decide (j ≤ i))
def rAddS : R2 := fun x y H Q => ∃ i j, x = .str i ∧ y = .str j ∧ i.length + j.length ≤ sizeLine ∧ Q (.str (i ++ j)) H
def rInG : R2 := fun x y H Q => ∃ (c : Nat) (z : Str), x = .str ⟨#[c]⟩ ∧ y = .str z ∧ Q (.bl (decide (c ∈ z.cps.toList))) H
def rNinG : R2 := fun x y H Q => ∃ (c : Nat) (z : Str), x = .str ⟨#[c]⟩ ∧ y = .str z ∧ Q (.bl (!decide (c ∈ z.cps.toList))) H
def rIsNone : R2 := fun x y H Q => y = .non ∧ Q (.bl (decide (x = .non))) H
def rNotNone : R2 := fun x y H Q => y = .non ∧ Q (.bl (!decide (x = .non))) H
def uNeg : V → Hp → VK → Prop := rU fun i => .int (-i)
def rLen (K : PySem.W.Frag) : List V → Hp → VK → Prop := fun xs H Q => ∃ x n, xs = [x] ∧ LenV K x H n ∧ Q (.int n) H
def rInt : List V → Hp → VK → Prop := fun xs H Q => (∃ i, xs = [.int i] ∧ Q (.int i) H) ∨ ∃ k, xs = [.bl k] ∧ Q (.int (if k then 1 else 0)) H
def rAbs : List V → Hp → VK → Prop := fun xs H Q => ∃ i, xs = [.int i] ∧ Q (.int (if i < 0 then -i else i)) H
section
variable {X : Cx}
theorem o_addI : OpR X (binaryOp .Add) rAddI := op_add
theorem o_subI : OpR X (binaryOp .Sub) rSubI := op_sub
theorem o_mulI : OpR X (binaryOp .Mult) rMulI := op_mul
theorem o_divI : OpR X (binaryOp .FloorDiv) rDivI := op_fdiv
theorem o_modI : OpR X (binaryOp .Mod) rModI := op_mod
theorem o_powI : OpR X (binaryOp .Pow) rPowI := op_pow
theorem o_ltI : OpR X (compareOp .Lt) rLtI := op_lt
theorem o_leI : OpR X (compareOp .LtE) rLeI := op_le
theorem o_gtI : OpR X (compareOp .Gt) rGtI := op_gt
theorem o_geI : OpR X (compareOp .GtE) rGeI := op_ge
theorem o_addS : OpR X (binaryOp .Add) rAddS := op_add_str
theorem o_inG : OpR X (compareOp .In) rInG := op_in_sign
theorem o_ninG : OpR X (compareOp .NotIn) rNinG := op_notIn_sign
theorem o_isNone : OpR X (compareOp .Is) rIsNone := op_isN
theorem o_notNone : OpR X (compareOp .IsNot) rNotNone := op_notN
theorem u_neg : UnR X (unaryOp .USub) uNeg := un_neg
theorem c_len : CallR X (.builtin "len") (rLen X.K) := call_len
theorem c_int : CallR X (.type "int") rInt := call_int1
theorem c_abs : CallR X (.builtin "abs") rAbs := call_abs
/-- a global constant -/
theorem pe_g {x : Str} {v : V} {pos : Pos} (h : ∃ u, X.mg x = some u ∧ RelV v u) (hg : Gl X x := by rfl) (hd : (x == ("__debug__" : Str)) = false := by decide) : PE X (.Name x pos) (tC v) := by
  obtain ⟨u, e, r⟩ := h
  exact pe_glob hg e r hd
/-- a built-in class as a value -/
theorem pe_b {x : Str} {n : String} {pos : Pos} (hm : X.mg x = none) (hv : bootBuiltins x = some (.type n)) (hg : Gl X x := by rfl) (hn : x ≠ "__name__" := by decide) (hd : (x == ("__debug__" : Str)) = false := by decide) : PE X (.Name x pos) (tC (.ty n)) :=
  pe_bltn hg hm hv rfl hn hd
/-- raise C(e): what the error's making asks -/
def MkEnd (K : PySem.W.Frag) (C : Addr) (f : Str) (vs : List V) (H1 : Hp) (Q : XK) : Prop := vs.length ≤ 1000 ∧ ∀ a, H1 a = none → spInit1 K C f (.ref a :: (vs ++ [])) (upd H1 a (exo a C none))
  (fun v H2 => v = .non ∧ ∃ (d : Addr) (fs : List (Str × V)), H2 a = some (exo a C (some d)) ∧ H2 d = some (exd d fs) ∧ H1 d = none ∧ Q (.ref C) (some d) (upd (del H2 a) d (.xd fs))) (fun _ _ _ => False)
def tRz (K : PySem.W.Frag) (C : Addr) (f : Str) (W : WX) (te : TE) : TS := fun _ σ H => te σ H fun y H1 => MkEnd K C f [y] H1 fun cls d H' => W cls d σ H'
theorem ps_rz {x f : Str} {C fI : Addr} {fd : FuncData} {ps : List Str} {W : WX} {e : Expr} {te : TE} {p pos pos' : Pos} (T : Exc1 X x C f fI fd ps) (hr : Room 2 X.A) (hc : X.calm = true) (tk : Takes X W) (he : PE X e te) (hg : Gl X x := by rfl)
    (hdb : (x == ("__debug__" : Str)) = false := by decide) (hst : starEach [e] X.env = (false, eval e X.env) :: starEach [] X.env := by rfl) (hpl : (backTo pos (starEach [] X.env)).any (·.1) = false := by rfl) :
    PS X (.Raise (some (.Call (.Name x p) [e] [] pos)) none pos') (tRz X.K C f W te) :=
  ps_raise (pos := pos') hc tk (pmk_oex (ds := []) T.T T.iC T.tI T.F hr T.b .nil passL hg T.gC (pa_cons he pa_nil hst) hdb hst hpl)
end
theorem w_mk {K : PySem.W.Frag} {C : Addr} {f : Str} {y : V} {H1 : Hp} {Q : XK} (T : OexC K C) (no : PySem.W.findIn K (.ref C) f = some none) (h : ∀ d, H1 d = none → Q (.ref C) (some d) (upd H1 d (.xd [(f, y)]))) : MkEnd K C f [y] H1 Q :=
  spInit1_mk (te := fun _ H Q => Q y H) (σ := []) (H := H1) T no h fun Q Q' hQ q => hQ _ _ q

/-! ### readings, step by step -/
section
variable {K : PySem.W.Frag} {σ : L2.St} {H : Hp} {D : Ends} {Q : VK} {v x y z : V} {i j : Int} {n : Nat} {ta tb te tc : TE} {t u c : TT} {t1 t2 : TS} {g : TG} {ts tr : TA} {R : Bool → Hp → Prop} {QA : List V → Hp → Prop}
theorem w_seq (h : t1 { D with nx := t2 D } σ H) : tSeq t1 t2 D σ H := h
theorem w_next (h : D.nx σ H) : tNext D σ H := h
theorem w_brk (h : D.bk σ H) : tBreak D σ H := h
theorem w_cont (h : D.ct σ H) : tCont D σ H := h
theorem w_asg (h : te σ H fun x H1 => g x σ H1 D.nx) : tAsg te g D σ H := h
theorem w_name {N : L2.St → Hp → Prop} (h : N (σ.set n (some v)) H) : gName n v σ H N := h
theorem w_ret (h : te σ H D.rt) : tRet te D σ H := h
theorem w_retN (h : D.rt .non H) : tRetN D σ H := h
theorem w_drop (h : te σ H fun _ H1 => D.nx σ H1) : tDrop te D σ H := h
theorem w_ifS (h : c σ H fun b H1 => if b = true then t1 D σ H1 else t2 D σ H1) : tIfS c t1 t2 D σ H := h
theorem w_var (e : σ[n]? = some (some v)) (h : Q v H) : tVar n σ H Q := ⟨v, e, h⟩
theorem w_c (h : Q v H) : tC v σ H Q := h
theorem w_op {r : R2} (h : ta σ H fun x H1 => tb σ H1 fun y H2 => r x y H2 Q) : tOp r ta tb σ H Q := h
theorem w_un {r : V → Hp → VK → Prop} (h : ta σ H fun x H1 => r x H1 Q) : tUn r ta σ H Q := h
theorem w_test (h : te σ H fun x H' => ∃ k, x = .bl k ∧ R k H') : tTest te σ H R := h
theorem w_B (h : te σ H fun x H' => ∃ k, x = .bl k ∧ R k H') : tB te σ H R := h
theorem w_tAnd (h : t σ H fun c H1 => if c = true then u σ H1 R else R false H1) : tAnd t u σ H R := h
theorem w_tOr (h : t σ H fun c H1 => if c = true then R true H1 else u σ H1 R) : tOr t u σ H R := h
theorem w_tNot (h : t σ H fun c H1 => R (!c) H1) : tNot t σ H R := h
theorem w_andV (h : ta σ H fun x H1 => ∃ c, x = .bl c ∧ if c = true then tb σ H1 Q else Q (.bl false) H1) : tAndV ta tb σ H Q := h
theorem w_orV (h : ta σ H fun x H1 => ∃ c, x = .bl c ∧ if c = true then Q (.bl true) H1 else tb σ H1 Q) : tOrV ta tb σ H Q := h
theorem w_notV (h : ta σ H fun x H1 => ∃ c, x = .bl c ∧ Q (.bl (!c)) H1) : tNotV ta σ H Q := h
theorem w_if (h : t σ H fun c H1 => if c = true then ta σ H1 Q else tb σ H1 Q) : tIf t ta tb σ H Q := h
theorem w_nil (h : QA [] H) : tNil σ H QA := h
theorem w_cons (h : te σ H fun x H1 => tr σ H1 fun xs H2 => QA (x :: xs) H2) : tCons te tr σ H QA := h
theorem w_tup (h : ts σ H fun xs H1 => xs.length ≤ sizeLine ∧ ∀ p, H1 p = none → Q (.ref p) (upd H1 p (.tup xs))) : tTup ts σ H Q := h
theorem w_lst (h : ts σ H fun xs H1 => xs.length ≤ sizeLine ∧ ∀ p, H1 p = none → Q (.ref p) (upd H1 p (.lst xs))) : tLst ts σ H Q := h
theorem w_cb {r : List V → Hp → VK → Prop} (h : ts σ H fun vs H1 => r vs H1 Q) : tCB r ts σ H Q := h
theorem w_call {sp : Sp} {dvs : List V} {E : XK} (h : ts σ H fun vs H1 => sp (vs ++ dvs) H1 Q E) : tCall sp dvs E ts σ H Q := h
theorem w_callS {sp : Sp} {E : L2.St → XK} (h : ts σ H fun vs H1 => sp vs H1 Q (E σ)) : tCallS sp E ts σ H Q := h
theorem w_addI (h : Q (.int (i + j)) H) : rAddI (.int i) (.int j) H Q := ⟨i, j, rfl, rfl, h⟩
theorem w_subI (h : Q (.int (i - j)) H) : rSubI (.int i) (.int j) H Q := ⟨i, j, rfl, rfl, h⟩
theorem w_mulI (c : CMul i j) (h : Q (.int (i * j)) H) : rMulI (.int i) (.int j) H Q := ⟨i, j, rfl, rfl, c, h⟩
theorem w_divI (c : CDiv i j) (h : Q (.int (i / j)) H) : rDivI (.int i) (.int j) H Q := ⟨i, j, rfl, rfl, c, h⟩
theorem w_modI (c : 0 < j) (h : Q (.int (i % j)) H) : rModI (.int i) (.int j) H Q := ⟨i, j, rfl, rfl, c, h⟩
theorem w_powI (c : CPow i j) (h : Q (.int (i ^ j.toNat)) H) : rPowI (.int i) (.int j) H Q := ⟨i, j, rfl, rfl, c, h⟩
theorem w_ltI (h : Q (.bl (decide (i < j))) H) : rLtI (.int i) (.int j) H Q := ⟨i, j, rfl, rfl, h⟩
theorem w_leI (h : Q (.bl (decide (i ≤ j))) H) : rLeI (.int i) (.int j) H Q := ⟨i, j, rfl, rfl, h⟩
theorem w_gtI (h : Q (.bl (decide (j < i))) H) : rGtI (.int i) (.int j) H Q := ⟨i, j, rfl, rfl, h⟩
theorem w_geI (h : Q (.bl (decide (j ≤ i))) H) : rGeI (.int i) (.int j) H Q := ⟨i, j, rfl, rfl, h⟩
theorem w_addS {a b : Str} (c : a.length + b.length ≤ sizeLine) (h : Q (.str (a ++ b)) H) : rAddS (.str a) (.str b) H Q := ⟨a, b, rfl, rfl, c, h⟩
theorem w_eq (c : scal x y = true) (h : Q (.bl (decide (x = y))) H) : rEq x y H Q := ⟨c, h⟩
theorem w_ne (c : scal x y = true) (h : Q (.bl (!decide (x = y))) H) : rNe x y H Q := ⟨c, h⟩
theorem w_isNone (h : Q (.bl (decide (x = .non))) H) : rIsNone x .non H Q := ⟨rfl, h⟩
theorem w_notNone (h : Q (.bl (!decide (x = .non))) H) : rNotNone x .non H Q := ⟨rfl, h⟩
theorem w_neg (h : Q (.int (-i)) H) : uNeg (.int i) H Q := ⟨i, rfl, h⟩
theorem w_ixL {p : Addr} {xs : List V} (s : SqL K H p xs) (e : atI xs i = some v) (h : Q v H) : rIxL K (.ref p) (.int i) H Q := ⟨p, xs, i, v, rfl, rfl, s, e, h⟩
theorem w_ixT {p : Addr} {xs : List V} (s : SqT K H p xs) (e : atI xs i = some v) (h : Q v H) : rIxT K (.ref p) (.int i) H Q := ⟨p, xs, i, v, rfl, rfl, s, e, h⟩
theorem w_intI (h : Q (.int i) H) : rInt [.int i] H Q := .inl ⟨i, rfl, h⟩
theorem w_intB {b : Bool} (h : Q (.int (if b then 1 else 0)) H) : rInt [.bl b] H Q := .inr ⟨b, rfl, h⟩
theorem w_abs (h : Q (.int (if i < 0 then -i else i)) H) : rAbs [.int i] H Q := ⟨i, rfl, h⟩
theorem w_lenS {a : Str} (c : a.length ≤ sizeLine) (h : Q (.int a.length) H) : rLen K [.str a] H Q := ⟨_, _, rfl, ⟨c, rfl⟩, h⟩
theorem w_lenL {p : Addr} {xs : List V} (s : SqL K H p xs) (h : Q (.int xs.length) H) : rLen K [.ref p] H Q := ⟨_, _, rfl, .inl ⟨xs, s, rfl⟩, h⟩
theorem w_lenT {p : Addr} {xs : List V} (s : SqT K H p xs) (h : Q (.int xs.length) H) : rLen K [.ref p] H Q := ⟨_, _, rfl, .inr ⟨xs, s, rfl⟩, h⟩
theorem w_bl {b : Bool} {F : Bool → Prop} (h : F b) : ∃ k, V.bl b = .bl k ∧ F k := ⟨b, rfl, h⟩
theorem w_fld {f : Str} {a C dx : Addr} {fs : List (Str × V)} (ho : H a = some (.ins C dx fs)) (c : Cls K C) (n : NoAttr K C f) (l : fs.lookup f = some v) (h : Q v H) : tFld K (tC (.ref a)) f σ H Q := ⟨a, C, dx, fs, v, rfl, ho, c, n, l, h⟩
theorem w_fld0 {f : Str} (h : ta σ H fun x H1 => ∃ a C dx fs v, x = .ref a ∧ H1 a = some (.ins C dx fs) ∧ Cls K C ∧ NoAttr K C f ∧ fs.lookup f = some v ∧ Q v H1) : tFld K ta f σ H Q := h
theorem w_sFld {f : Str} (h : te σ H fun y H1 => ta σ H1 fun x H2 => ∃ a C dx fs, x = .ref a ∧ H2 a = some (.ins C dx fs) ∧ Cls K C ∧ NoAttr K C f ∧ fs.length < 1000 ∧ D.nx σ (upd H2 a (.ins C dx (putF f y fs)))) : sFld K ta te f D σ H := h
theorem w_sl {r : V → Option Int → Option Int → Hp → VK → Prop} {tl th : TO} (h : te σ H fun x H1 => tl σ H1 fun l H2 => th σ H2 fun u H3 => r x l u H3 Q) : tSl r te tl th σ H Q := h
theorem w_noPart {QO : Option Int → Hp → Prop} (h : QO none H) : tNoPart σ H QO := h
theorem w_part {QO : Option Int → Hp → Prop} (h : te σ H fun x H1 => ∃ i, x = .int i ∧ QO (some i) H1) : tPart te σ H QO := h
theorem w_partI {F : Int → Prop} (h : F i) : ∃ k, V.int i = .int k ∧ F k := ⟨i, rfl, h⟩
theorem w_slS {a : Str} {lo hi : Option Int} (c : a.length ≤ sizeLine) (h : Q (.str (cutS a lo hi)) H) : rSlS (.str a) lo hi H Q := ⟨a, rfl, c, h⟩
theorem w_rz {C : Addr} {f : Str} {W : WX} (h : te σ H fun y H1 => MkEnd K C f [y] H1 fun cls d H' => W cls d σ H') : tRz K C f W te D σ H := h
theorem w_meth {C : Addr} {m : Str} {sp : Sp} {dvs : List V} {E : XK} (h : ta σ H fun x H1 => ∃ a dx fs, x = .ref a ∧ H1 a = some (.ins C dx fs) ∧ fs.lookup m = none ∧ ts σ H1 fun vs H2 => sp (x :: (vs ++ dvs)) H2 Q E) : tMeth C m sp dvs E ta ts σ H Q := h
theorem w_methG {C : Addr} {m : Str} {sp : Sp} {E : L2.St → XK} (h : ta σ H fun x H1 => ∃ a dx fs, x = .ref a ∧ H1 a = some (.ins C dx fs) ∧ fs.lookup m = none ∧ ts σ H1 fun vs H2 => sp (x :: vs) H2 Q (E σ)) : tMethG C m sp E ta ts σ H Q := h
theorem w_ite {p A B : Prop} [Decidable p] (h1 : p → A) (h2 : ¬ p → B) : if decide p = true then A else B := by
  by_cases h : p
  · rw [if_pos (decide_eq_true h)]; exact h1 h
  · rw [if_neg (by rw [decide_eq_false h]; exact Bool.false_ne_true)]; exact h2 h
theorem w_iteN {p A B : Prop} [Decidable p] (h1 : ¬ p → A) (h2 : p → B) : if (!decide p) = true then A else B := by
  by_cases h : p
  · rw [decide_eq_true h]; exact iteF (h2 h)
  · rw [decide_eq_false h]; exact iteT (h1 h)
theorem w_iteB {b : Bool} {A B : Prop} (h1 : b = true → A) (h2 : b = false → B) : if b = true then A else B := by
  cases b with
  | true => exact iteT (h1 rfl)
  | false => exact iteF (h2 rfl)
theorem up_new {o u : HO} {a p : Addr} (hp : H p = none) (h : H a = some o) : upd H p u a = some o := by rw [upd_ne (ne_of_none h hp)]; exact h
theorem up_mut {o u w : HO} {a p : Addr} (hp : H p = some w) (hn : o ≠ w) (h : H a = some o) : upd H p u a = some o := by rw [upd_ne (ne_of h hp hn)]; exact h
theorem up_ne {o u : HO} {a p : Addr} (hp : a ≠ p) (h : H a = some o) : upd H p u a = some o := by rw [upd_ne hp]; exact h
end
end LX

set_option Elab.async false
set_option linter.all false
set_option maxRecDepth 100000
set_option maxHeartbeats 4000000
namespace LX
open PySem PySem.Spec PyProof.Rows L2
/-- 'except n' names an error of class c or does not: by the classes -/
theorem exm_of {K : PySem.W.Frag} {c n : Addr} {b : Bool} (h1 : PySem.W.subIn K (.ref n) (.type "BaseException") = some true) (h2 : PySem.W.isClsIn K n = true) (h3 : PySem.W.typeIn K (.ref n) = some (.type "type"))
    (h4 : PySem.W.subIn K (.ref c) (.ref n) = some b) : PySem.W.exmOne K (.ref c) (.ref n) = some b := by
  have e1 : (PySem.W.subIn K (.ref n) (.type "BaseException") == some true) = true := by rw [h1] <;> rfl
  have e2 : ((PySem.W.clsIn K n).isSome && PySem.W.typeIn K (.ref n) == some (.type "type")) = true := by
    rw [show (PySem.W.clsIn K n).isSome = true from h2, h3] <;> rfl
  show (if (PySem.W.subIn K (.ref n) (.type "BaseException") == some true) = true then (if ((PySem.W.clsIn K n).isSome && PySem.W.typeIn K (.ref n) == some (.type "type")) = true then PySem.W.subIn K (.ref c) (.ref n) else none) else none) = some b
  rw [if_pos e1, if_pos e2, h4]
theorem hu64 {A : Around} {k : Nat} (hr : Room k A) : A.units + 64 < cLine := hr.units
end LX

set_option Elab.async false
set_option linter.all false
set_option maxRecDepth 100000
set_option maxHeartbeats 4000000
namespace LX
open PySem PySem.Spec PyProof.Rows L2
/-- an iterator whose items are known, n of them -/
structure Fix (J : It) (n : Nat) (v : Nat → V) : Prop where
  go : ∀ i H, i < n → J.go i H
  stop : ∀ H, J.stop n H
  yld : ∀ i H x H', i < n → J.yld i H x H' → x = v i ∧ H' = H
theorem fix_str (x : Str) : Fix (Its x) x.cps.size fun i => .str ⟨#[x.cps.getD i 0]⟩ :=
  ⟨fun _ _ h => h, fun _ => Nat.le_refl _, fun i H y H' _ h => by
    obtain ⟨e, c, hc, ey⟩ := h
    refine ⟨?_, e⟩
    rw [ey, Array.getD_eq_getD_getElem?, hc]
    rfl⟩
theorem fix_rng (lo : Int) (n : Nat) : Fix (Itr lo n) n fun i => .int (lo + (i : Nat)) := ⟨fun _ _ h => h, fun _ => Nat.le_refl _, fun _ _ _ _ _ h => ⟨h.2, h.1⟩⟩
section
variable {J : It} {n : Nat} {v : Nat → V} {g : TG} {tt : TT} {te : TE} {vs : List Nat} {σ : L2.St} {H1 : Hp} {Dl : Addr} {Qd : Hp → Prop}
/-- what a comprehension asks, over known items -/
theorem lc_fix (F : Fix J n v) (Pv : Nat → Hp → Prop) (h0 : Pv 0 (upd H1 Dl (.lst [])))
    (hs : ∀ i H, i < n → Pv i H → g (v i) (wipe σ vs) H fun σ2 H2 => wipe σ2 vs = wipe σ vs ∧ tt σ2 H2 fun b H3 =>
      if b = true then te σ2 H3 fun y H4 => ∃ acc, H4 Dl = some (.lst acc) ∧ acc.length < sizeLine ∧ Pv (i + 1) (upd H4 Dl (.lst (acc ++ [y]))) else Pv (i + 1) H3) (hd : ∀ H, Pv n H → Qd H) :
    ∃ W : Nat → Nat → Hp → Prop, (∃ m, W 0 m (upd H1 Dl (.lst []))) ∧ ∀ i m H, W i m H →
      (J.stop i H ∧ Qd H) ∨ (J.go i H ∧ ∃ Nx : Hp → Prop, (∀ H', Nx H' → ∃ m', m' < m ∧ W (i + 1) m' H') ∧ ∀ x H', J.yld i H x H' → g x (wipe σ vs) H' fun σ2 H2 => wipe σ2 vs = wipe σ vs ∧ tt σ2 H2 fun b H3 =>
        if b = true then te σ2 H3 fun y H4 => ∃ acc, H4 Dl = some (.lst acc) ∧ acc.length < sizeLine ∧ Nx (upd H4 Dl (.lst (acc ++ [y]))) else Nx H3) := by
  refine ⟨fun i m H => m = n - i ∧ i ≤ n ∧ Pv i H, ⟨n, by simp, Nat.zero_le _, h0⟩, ?_⟩
  rintro i m H ⟨rfl, hi, p⟩
  by_cases hlt : i < n
  · refine .inr ⟨F.go i H hlt, Pv (i + 1), fun H' p' => ⟨n - (i + 1), by omega, rfl, hlt, p'⟩, fun x H' y => ?_⟩
    obtain ⟨rfl, rfl⟩ := F.yld i H x H' hlt y
    exact hs i _ hlt p
  · have e : i = n := by omega
    subst e
    exact .inl ⟨F.stop H, hd H p⟩
/-- the same of a for -/
theorem for_fix {tb : TS} {D : Ends} {σ : L2.St} {H : Hp} (F : Fix J n v) (Pv : Nat → L2.St → Hp → Prop) (h0 : Pv 0 σ H)
    (hs : ∀ i σ H, i < n → Pv i σ H → g (v i) σ H fun σ2 H2 => tb { D with nx := Pv (i + 1), ct := Pv (i + 1), bk := D.nx } σ2 H2) (hd : ∀ σ H, Pv n σ H → D.nx σ H) :
    ∃ W : Nat → Nat → L2.St → Hp → Prop, (∃ m, W 0 m σ H) ∧ ∀ i m σ H, W i m σ H →
      (J.stop i H ∧ D.nx σ H) ∨ (J.go i H ∧ ∃ N : L2.St → Hp → Prop, (∀ σ' H', N σ' H' → ∃ m', m' < m ∧ W (i + 1) m' σ' H') ∧ ∀ x H', J.yld i H x H' → g x σ H' fun σ2 H2 => tb { D with nx := N, ct := N, bk := D.nx } σ2 H2) := by
  refine ⟨fun i m σ H => m = n - i ∧ i ≤ n ∧ Pv i σ H, ⟨n, by simp, Nat.zero_le _, h0⟩, ?_⟩
  rintro i m σ H ⟨rfl, hi, p⟩
  by_cases hlt : i < n
  · refine .inr ⟨F.go i H hlt, Pv (i + 1), fun σ' H' p' => ⟨n - (i + 1), by omega, rfl, hlt, p'⟩, fun x H' y => ?_⟩
    obtain ⟨rfl, rfl⟩ := F.yld i H x H' hlt y
    exact hs i σ _ hlt p
  · have e : i = n := by omega
    subst e
    exact .inl ⟨F.stop H, hd σ H p⟩
/-- a filter: the test is pure, the element is the item -/
theorem lc_filter {i : Nat} (F : Fix J n v) (f : Nat → Bool) (hn : n ≤ 16000000) (hD : H1 Dl = none) (hw : ∀ x, wipe ((wipe σ [i]).set i (some x)) [i] = wipe σ [i]) (hi : ∀ x, ((wipe σ [i]).set i (some x))[i]? = some (some x))
    (ht : ∀ j H R, j < n → Same H1 H → R (f j) H → tt ((wipe σ [i]).set i (some (v j))) H R) (hd : ∀ H, Same H1 H → H Dl = some (.lst (((List.range n).filter f).map v)) → Qd H) :
    ∃ W : Nat → Nat → Hp → Prop, (∃ m, W 0 m (upd H1 Dl (.lst []))) ∧ ∀ k m H, W k m H →
      (J.stop k H ∧ Qd H) ∨ (J.go k H ∧ ∃ Nx : Hp → Prop, (∀ H', Nx H' → ∃ m', m' < m ∧ W (k + 1) m' H') ∧ ∀ x H', J.yld k H x H' → gName i x (wipe σ [i]) H' fun σ2 H2 => wipe σ2 [i] = wipe σ [i] ∧ tt σ2 H2 fun b H3 =>
        if b = true then tVar i σ2 H3 fun y H4 => ∃ acc, H4 Dl = some (.lst acc) ∧ acc.length < sizeLine ∧ Nx (upd H4 Dl (.lst (acc ++ [y]))) else Nx H3) := by
  refine lc_fix F (fun k H => Same H1 H ∧ H Dl = some (.lst (((List.range k).filter f).map v))) ⟨fun b o e => up_new hD e, upd_same⟩ (fun k H hk ⟨s, e⟩ => ⟨hw _, ht k H _ hk s ?_⟩) (fun H ⟨s, e⟩ => hd H s e)
  cases hf : f k with
  | false =>
    refine iteF ⟨s, ?_⟩
    rw [e, List.range_succ, List.filter_append, List.filter_cons, if_neg (by rw [hf]; exact Bool.false_ne_true)]
    simp
  | true =>
    refine iteT ⟨v k, hi _, _, e, ?_, fun b o hb => ?_, ?_⟩
    · have h1 : (((List.range k).filter f).map v).length ≤ k := by
        rw [List.length_map]
        exact Nat.le_trans (List.length_filter_le _ _) (by simp)
      rw [sizeLine_eq]
      omega
    · rw [upd_ne (ne_of_none hb hD)]
      exact s b o hb
    · rw [upd_same, List.range_succ, List.filter_append, List.filter_cons, if_pos hf]
      simp
end
end LX

set_option Elab.async false
set_option linter.all false
set_option maxRecDepth 100000
set_option maxHeartbeats 4000000
namespace LX
open PySem PySem.Spec PyProof.Rows L2
/-- the same where the heap has to keep something -/
structure FixR (R : Hp → Prop) (J : It) (n : Nat) (v : Nat → V) : Prop where
  go : ∀ i H, R H → i < n → J.go i H
  stop : ∀ H, R H → J.stop n H
  yld : ∀ i H x H', R H → i < n → J.yld i H x H' → x = v i ∧ H' = H
theorem fixR_list (K : PySem.W.Frag) (a : Addr) (xs : List V) : FixR (fun H => SqL K H a xs) (Itl K a) xs.length fun i => xs.getD i .non :=
  ⟨fun i H r h => ⟨xs, xs[i], r, List.getElem?_eq_getElem h⟩, fun H r => ⟨xs, r, Nat.le_refl _⟩, fun i H x H' r h y => by
    obtain ⟨e, k⟩ := y
    have := k xs r
    refine ⟨?_, e⟩
    rw [List.getD_eq_getElem?_getD, this]
    rfl⟩
theorem fixR_tup (K : PySem.W.Frag) (a : Addr) (xs : List V) : FixR (fun H => SqT K H a xs) (Itt K a) xs.length fun i => xs.getD i .non :=
  ⟨fun i H r h => ⟨xs, xs[i], r, List.getElem?_eq_getElem h⟩, fun H r => ⟨xs, r, Nat.le_refl _⟩, fun i H x H' r h y => by
    obtain ⟨e, k⟩ := y
    have := k xs r
    refine ⟨?_, e⟩
    rw [List.getD_eq_getElem?_getD, this]
    rfl⟩
section
variable {Rk : Hp → Prop} {J : It} {n : Nat} {v : Nat → V} {g : TG} {tt : TT} {te : TE} {vs : List Nat} {σ : L2.St} {H1 : Hp} {Dl : Addr} {Qd : Hp → Prop}
theorem lc_fixR (F : FixR Rk J n v) (Pv : Nat → Hp → Prop) (kR : ∀ i H, Pv i H → Rk H) (h0 : Pv 0 (upd H1 Dl (.lst [])))
    (hs : ∀ i H, i < n → Pv i H → g (v i) (wipe σ vs) H fun σ2 H2 => wipe σ2 vs = wipe σ vs ∧ tt σ2 H2 fun b H3 =>
      if b = true then te σ2 H3 fun y H4 => ∃ acc, H4 Dl = some (.lst acc) ∧ acc.length < sizeLine ∧ Pv (i + 1) (upd H4 Dl (.lst (acc ++ [y]))) else Pv (i + 1) H3) (hd : ∀ H, Pv n H → Qd H) :
    ∃ W : Nat → Nat → Hp → Prop, (∃ m, W 0 m (upd H1 Dl (.lst []))) ∧ ∀ i m H, W i m H →
      (J.stop i H ∧ Qd H) ∨ (J.go i H ∧ ∃ Nx : Hp → Prop, (∀ H', Nx H' → ∃ m', m' < m ∧ W (i + 1) m' H') ∧ ∀ x H', J.yld i H x H' → g x (wipe σ vs) H' fun σ2 H2 => wipe σ2 vs = wipe σ vs ∧ tt σ2 H2 fun b H3 =>
        if b = true then te σ2 H3 fun y H4 => ∃ acc, H4 Dl = some (.lst acc) ∧ acc.length < sizeLine ∧ Nx (upd H4 Dl (.lst (acc ++ [y]))) else Nx H3) := by
  refine ⟨fun i m H => m = n - i ∧ i ≤ n ∧ Pv i H, ⟨n, by simp, Nat.zero_le _, h0⟩, ?_⟩
  rintro i m H ⟨rfl, hi, p⟩
  by_cases hlt : i < n
  · refine .inr ⟨F.go i H (kR _ _ p) hlt, Pv (i + 1), fun H' p' => ⟨n - (i + 1), by omega, rfl, hlt, p'⟩, fun x H' y => ?_⟩
    obtain ⟨rfl, rfl⟩ := F.yld i H x H' (kR _ _ p) hlt y
    exact hs i _ hlt p
  · have e : i = n := by omega
    subst e
    exact .inl ⟨F.stop H (kR _ _ p), hd H p⟩
theorem for_fixR {tb : TS} {D : Ends} {σ : L2.St} {H : Hp} (F : FixR Rk J n v) (Pv : Nat → L2.St → Hp → Prop) (kR : ∀ i σ H, Pv i σ H → Rk H) (h0 : Pv 0 σ H)
    (hs : ∀ i σ H, i < n → Pv i σ H → g (v i) σ H fun σ2 H2 => tb { D with nx := Pv (i + 1), ct := Pv (i + 1), bk := D.nx } σ2 H2) (hd : ∀ σ H, Pv n σ H → D.nx σ H) :
    ∃ W : Nat → Nat → L2.St → Hp → Prop, (∃ m, W 0 m σ H) ∧ ∀ i m σ H, W i m σ H →
      (J.stop i H ∧ D.nx σ H) ∨ (J.go i H ∧ ∃ N : L2.St → Hp → Prop, (∀ σ' H', N σ' H' → ∃ m', m' < m ∧ W (i + 1) m' σ' H') ∧ ∀ x H', J.yld i H x H' → g x σ H' fun σ2 H2 => tb { D with nx := N, ct := N, bk := D.nx } σ2 H2) := by
  refine ⟨fun i m σ H => m = n - i ∧ i ≤ n ∧ Pv i σ H, ⟨n, by simp, Nat.zero_le _, h0⟩, ?_⟩
  rintro i m σ H ⟨rfl, hi, p⟩
  by_cases hlt : i < n
  · refine .inr ⟨F.go i H (kR _ _ _ p) hlt, Pv (i + 1), fun σ' H' p' => ⟨n - (i + 1), by omega, rfl, hlt, p'⟩, fun x H' y => ?_⟩
    obtain ⟨rfl, rfl⟩ := F.yld i H x H' (kR _ _ _ p) hlt y
    exact hs i σ _ hlt p
  · have e : i = n := by omega
    subst e
    exact .inl ⟨F.stop H (kR _ _ _ p), hd σ H p⟩
/-- a filter over items that the heap keeps -/
theorem lc_filterR {i : Nat} (F : FixR Rk J n v) (f : Nat → Bool) (hn : n ≤ 16000000) (hD : H1 Dl = none) (kR : ∀ H, Same H1 H → Rk H) (hw : ∀ x, wipe ((wipe σ [i]).set i (some x)) [i] = wipe σ [i]) (hi : ∀ x, ((wipe σ [i]).set i (some x))[i]? = some (some x))
    (ht : ∀ j H R, j < n → Same H1 H → R (f j) H → tt ((wipe σ [i]).set i (some (v j))) H R) (hd : ∀ H, Same H1 H → H Dl = some (.lst (((List.range n).filter f).map v)) → Qd H) :
    ∃ W : Nat → Nat → Hp → Prop, (∃ m, W 0 m (upd H1 Dl (.lst []))) ∧ ∀ k m H, W k m H →
      (J.stop k H ∧ Qd H) ∨ (J.go k H ∧ ∃ Nx : Hp → Prop, (∀ H', Nx H' → ∃ m', m' < m ∧ W (k + 1) m' H') ∧ ∀ x H', J.yld k H x H' → gName i x (wipe σ [i]) H' fun σ2 H2 => wipe σ2 [i] = wipe σ [i] ∧ tt σ2 H2 fun b H3 =>
        if b = true then tVar i σ2 H3 fun y H4 => ∃ acc, H4 Dl = some (.lst acc) ∧ acc.length < sizeLine ∧ Nx (upd H4 Dl (.lst (acc ++ [y]))) else Nx H3) := by
  refine lc_fixR F (fun k H => Same H1 H ∧ H Dl = some (.lst (((List.range k).filter f).map v))) (fun _ H p => kR H p.1) ⟨fun b o e => up_new hD e, upd_same⟩ (fun k H hk ⟨s, e⟩ => ⟨hw _, ht k H _ hk s ?_⟩) (fun H ⟨s, e⟩ => hd H s e)
  cases hf : f k with
  | false =>
    refine iteF ⟨s, ?_⟩
    rw [e, List.range_succ, List.filter_append, List.filter_cons, if_neg (by rw [hf]; exact Bool.false_ne_true)]
    simp
  | true =>
    refine iteT ⟨v k, hi _, _, e, ?_, fun b o hb => ?_, ?_⟩
    · have h1 : (((List.range k).filter f).map v).length ≤ k := by
        rw [List.length_map]
        exact Nat.le_trans (List.length_filter_le _ _) (by simp)
      rw [sizeLine_eq]
      omega
    · rw [upd_ne (ne_of_none hb hD)]
      exact s b o hb
    · rw [upd_same, List.range_succ, List.filter_append, List.filter_cons, if_pos hf]
      simp
/-- over items each in a new tuple -/
theorem for_itn {ys : Nat → List V} {tb : TS} {D : Ends} {σ : L2.St} {H : Hp} (Pv : Nat → L2.St → Hp → Prop) (h0 : Pv 0 σ H)
    (hs : ∀ i σ H T, i < n → Pv i σ H → H T = none → g (.ref T) σ (upd H T (.tup (ys i))) fun σ2 H2 => tb { D with nx := Pv (i + 1), ct := Pv (i + 1), bk := D.nx } σ2 H2) (hd : ∀ σ H, Pv n σ H → D.nx σ H) :
    ∃ W : Nat → Nat → L2.St → Hp → Prop, (∃ m, W 0 m σ H) ∧ ∀ i m σ H, W i m σ H →
      ((Itn n ys).stop i H ∧ D.nx σ H) ∨ ((Itn n ys).go i H ∧ ∃ N : L2.St → Hp → Prop, (∀ σ' H', N σ' H' → ∃ m', m' < m ∧ W (i + 1) m' σ' H') ∧ ∀ x H', (Itn n ys).yld i H x H' → g x σ H' fun σ2 H2 => tb { D with nx := N, ct := N, bk := D.nx } σ2 H2) := by
  refine ⟨fun i m σ H => m = n - i ∧ i ≤ n ∧ Pv i σ H, ⟨n, by simp, Nat.zero_le _, h0⟩, ?_⟩
  rintro i m σ H ⟨rfl, hi, p⟩
  by_cases hlt : i < n
  · refine .inr ⟨hlt, Pv (i + 1), fun σ' H' p' => ⟨n - (i + 1), by omega, rfl, hlt, p'⟩, fun x H' y => ?_⟩
    obtain ⟨T, rfl, hT, rfl⟩ := y
    exact hs i σ _ T hlt p hT
  · have e : i = n := by omega
    exact .inl ⟨e, hd σ H (e ▸ p)⟩
end
section
variable {K : PySem.W.Frag} {σ : L2.St} {H : Hp} {D : Ends} {Q : VK} {v x y z : V} {i j l : Nat} {ta te : TE} {ts : TA} {c : TT} {N : L2.St → Hp → Prop}
theorem w_gsub {to ti : TE} {t : TSet} (h : to σ H fun o H1 => ti σ H1 fun i H2 => t o i v H2 fun H3 => N σ H3) : gSub to ti t v σ H N := h
theorem w_setL {p : Addr} {xs : List V} {k : Int} {j : Nat} {N : Hp → Prop} (hp : H p = some (.lst xs)) (hk : ixN xs.length k = some j) (h : N (upd H p (.lst (xs.set j v)))) : rSetL (.ref p) (.int k) v H N := ⟨p, xs, k, j, rfl, rfl, hp, hk, h⟩
theorem w_par (h : ts σ H fun vs H1 => ∃ v w, vs = [v, w] ∧ D.nx ((σ.set i (some v)).set j (some w)) H1) : tPar i j ts D σ H := h
theorem w_par3 (h : ts σ H fun vs H1 => ∃ u v w, vs = [u, v, w] ∧ D.nx (((σ.set i (some u)).set j (some v)).set l (some w)) H1) : tPar3 i j l ts D σ H := h
theorem w_pr2 {F : V → V → Prop} {a b : V} (h : F a b) : ∃ v w, [a, b] = [v, w] ∧ F v w := ⟨a, b, rfl, h⟩
theorem w_pr3 {F : V → V → V → Prop} {a b d : V} (h : F a b d) : ∃ u v w, [a, b, d] = [u, v, w] ∧ F u v w := ⟨a, b, d, rfl, h⟩
theorem w_gT2 {p : Addr} {u w : V} (hp : H p = some (.tup [u, w])) (h : N ((σ.set i (some u)).set j (some w)) H) : gTup K 2 (gCons (gName i) (gCons (gName j) gNil)) (.ref p) σ H N := ⟨p, _, rfl, SqT.of hp, rfl, u, [w], rfl, w, [], rfl, rfl, h⟩
theorem w_gT3 {p : Addr} {u w z : V} (hp : H p = some (.tup [u, w, z])) (h : N (((σ.set i (some u)).set j (some w)).set l (some z)) H) : gTup K 3 (gCons (gName i) (gCons (gName j) (gCons (gName l) gNil))) (.ref p) σ H N := ⟨p, _, rfl, SqT.of hp, rfl, u, [w, z], rfl, w, [z], rfl, z, [], rfl, rfl, h⟩
theorem w_then {k : V → Hp → VK → Prop} (h : ta σ H fun x H1 => k x H1 Q) : tThen ta k σ H Q := h
theorem w_for {wi : TI} {g : TG} {tb : TS} (h : wi σ H fun J H1 => ∃ W : Nat → Nat → L2.St → Hp → Prop, (∃ m, W 0 m σ H1) ∧ ∀ i m σ H, W i m σ H →
  (J.stop i H ∧ D.nx σ H) ∨ (J.go i H ∧ ∃ N : L2.St → Hp → Prop, (∀ σ' H', N σ' H' → ∃ m', m' < m ∧ W (i + 1) m' σ' H') ∧ ∀ x H', J.yld i H x H' → g x σ H' fun σ2 H2 => tb { D with nx := N, ct := N, bk := D.nx } σ2 H2)) : tFor wi g tb D σ H := h
theorem w_rng1 {R : It → Hp → Prop} (h : ts σ H fun vs H1 => ∃ j : Int, vs = [.int j] ∧ -(2 ^ 62) ≤ j ∧ j < 2 ^ 62 ∧ R (Itr 0 j.toNat) H1) : iRng1 ts σ H R := h
theorem w_enumS {R : It → Hp → Prop} (h : ts σ H fun vs H1 => ∃ x, vs = [.str x] ∧ R (Itn x.cps.size fun i => [.int (i : Nat), .str (sign (x.cps.getD i 0))]) H1) : iEnumS ts σ H R := h
theorem w_iList {R : It → Hp → Prop} (h : ta σ H fun x H1 => ∃ a, x = .ref a ∧ (∃ xs, SqL K H1 a xs) ∧ R (Itl K a) H1) : iList K ta σ H R := h
theorem w_iTup {R : It → Hp → Prop} (h : ta σ H fun x H1 => ∃ a, x = .ref a ∧ (∃ xs, SqT K H1 a xs) ∧ R (Itt K a) H1) : iTup K ta σ H R := h
theorem w_iStr {R : It → Hp → Prop} (h : ta σ H fun v H1 => ∃ x, v = .str x ∧ R (Its x) H1) : iStr ta σ H R := h
theorem w_inT {neg : Bool} {p : Addr} {xs : List V} (s : SqT K H p xs) (f : flatV x = true) (fs : xs.all flatV = true) (h : Q (.bl (if neg then !inV x xs else inV x xs)) H) : rIn K neg x (.ref p) H Q := ⟨p, xs, rfl, .inr s, f, fs, h⟩
theorem w_inL {neg : Bool} {p : Addr} {xs : List V} (s : SqL K H p xs) (f : flatV x = true) (fs : xs.all flatV = true) (h : Q (.bl (if neg then !inV x xs else inV x xs)) H) : rIn K neg x (.ref p) H Q := ⟨p, xs, rfl, .inl s, f, fs, h⟩
theorem w_make {C : Addr} {sp : Sp} {dvs : List V} {E : XK} (h : ts σ H fun vs H1 => ∀ x dx, H1 x = none → H1 dx = none → dx ≠ x → sp (.ref x :: (vs ++ dvs)) (upd (upd H1 dx (.own x)) x (.ins C dx [])) (fun v H2 => v = .non ∧ Q (.ref x) H2) E) : tMake C sp dvs E ts σ H Q := h
theorem w_appL {p : Addr} {xs : List V} (hp : H p = some (.lst xs)) (hl : xs.length < sizeLine) (h : Q .non (upd H p (.lst (xs ++ [v])))) : rAppend (.ref p) [v] H Q := ⟨p, xs, v, rfl, rfl, hp, hl, h⟩
end
end LX

/-! k81, the plain law: texts are lists of codes -/
namespace M81

/-- moods of the law's own look: begin, one, factor -/
inductive Mood where | begin | one | factor
  deriving DecidableEq

def isName (c : Nat) : Bool := c == 119 || c == 120 || c == 121 || c == 122
def isFac (c : Nat) : Bool := isName c || c == 40
def isPow (c : Nat) : Bool := c == 94 || c == 126

def isOpen (m : Mood) (c : Nat) (d : Nat) (snd : Bool) : Bool :=
  if m = .begin then c == 49 || isFac c
  else if c = 41 then decide (0 < d)
  else if c = 61 then d == 0 && !snd
  else decide (m = .factor) && (isFac c || isPow c)

def stepM (m : Mood) (c : Nat) : Mood :=
  if c = 40 then .begin
  else if c = 61 then .begin
  else if c = 41 then .factor
  else if m = .begin then (if c = 49 then .one else .factor)
  else if isName c then .factor else m
def stepD (d : Nat) (c : Nat) : Nat := if c = 40 then d + 1 else if c = 61 then d else if c = 41 then d - 1 else d
def stepS (s : Bool) (c : Nat) : Bool := if c = 40 then s else if c = 61 then true else s

/-- what is left of the text at the first fault; none: it is whole -/
def fault : List Nat → Mood → Nat → Bool → Option (List Nat)
  | [], m, d, s => if s && d == 0 && decide (m ≠ .begin) then none else some []
  | c :: r, m, d, s => if isOpen m c d s then fault r (stepM m c) (stepD d c) (stepS s c) else some (c :: r)

/-! the reader: steps and what is left, or what is left at the error -/
inductive Step where | name (c : Nat) | one | times | omega | less
  deriving DecidableEq

def powers : List Nat → List Step × List Nat
  | [] => ([], [])
  | c :: r => if isPow c then ((if c = 94 then .omega else .less) :: (powers r).1, (powers r).2) else ([], c :: r)

def headFac : List Nat → Bool
  | [] => false
  | c :: _ => isFac c
def headPow : List Nat → Bool
  | [] => false
  | c :: _ => isPow c

inductive Out where | bad (r : List Nat) | good (ss : List Step) (r : List Nat)

mutual
inductive TermR : List Nat → Out → Prop
  | nil : TermR [] (.bad [])
  | one {r} : TermR (49 :: r) (.good [.one] r)
  | no {c r} (h1 : c ≠ 49) (h2 : isFac c = false) : TermR (c :: r) (.bad (c :: r))
  | bad {c r q} (h : isFac c = true) (p : PowerR (c :: r) (.bad q)) : TermR (c :: r) (.bad q)
  | good {c r ss q o} (h : isFac c = true) (p : PowerR (c :: r) (.good ss q)) (m : MoreR ss q o) : TermR (c :: r) o
inductive MoreR : List Step → List Nat → Out → Prop
  | stop {ss r} (h : headFac r = false) : MoreR ss r (.good ss r)
  | bad {ss r q} (h : headFac r = true) (p : PowerR r (.bad q)) : MoreR ss r (.bad q)
  | good {ss r ts q o} (h : headFac r = true) (p : PowerR r (.good ts q)) (m : MoreR (ss ++ ts ++ [.times]) q o) : MoreR ss r o
inductive PowerR : List Nat → Out → Prop
  | openBad {r q} (t : TermR r (.bad q)) : PowerR (40 :: r) (.bad q)
  | openNo {r ss q} (t : TermR r (.good ss q)) (h : q.head? ≠ some 41) : PowerR (40 :: r) (.bad q)
  | openOk {r ss q} (t : TermR r (.good ss (41 :: q))) : PowerR (40 :: r) (.good (ss ++ (powers q).1) (powers q).2)
  | name {c r} (h : isName c = true) : PowerR (c :: r) (.good (.name c :: (powers r).1) (powers r).2)
end

theorem powers_yes {c : Nat} {r : List Nat} (h : isPow c = true) : powers (c :: r) = ((if c = 94 then .omega else .less) :: (powers r).1, (powers r).2) := by
  show (if isPow c = true then _ else _) = _
  rw [if_pos h]
theorem powers_no {c : Nat} {r : List Nat} (h : isPow c = false) : powers (c :: r) = ([], c :: r) := by
  show (if isPow c = true then _ else _) = _
  rw [if_neg (by rw [h]; decide)]
theorem powers_len : ∀ r : List Nat, (powers r).2.length ≤ r.length
  | [] => Nat.le_refl _
  | c :: r => by
    unfold powers
    split
    · exact Nat.le_succ_of_le (powers_len r)
    · exact Nat.le_refl _
theorem powers_head : ∀ r : List Nat, headPow (powers r).2 = false
  | [] => rfl
  | c :: r => by
    unfold powers
    split
    · exact powers_head r
    · rename_i h
      show isPow c = false
      simpa using h

/-- what is left is shorter -/
def outLen (n : Nat) : Out → Prop
  | .bad q => q.length ≤ n
  | .good _ q => q.length ≤ n
theorem lens : ∀ n : Nat, (∀ r o, r.length ≤ n → PowerR r o → ∀ ss q, o = .good ss q → q.length < r.length) ∧ (∀ r o, r.length ≤ n → TermR r o → ∀ ss q, o = .good ss q → q.length < r.length) ∧ (∀ ts r o, r.length ≤ n → MoreR ts r o → ∀ ss q, o = .good ss q → q.length ≤ r.length) := by
  intro n
  induction n with
  | zero =>
    refine ⟨fun r o hl h ss q e => ?_, fun r o hl h ss q e => ?_, fun ts r o hl h ss q e => ?_⟩
    · cases h <;> simp at hl
    · cases h <;> simp at hl e
    · cases h with
      | stop h => cases e; exact Nat.le_refl _
      | bad h p => cases e
      | good h p m => cases r <;> simp [headFac] at h hl
  | succ n ih =>
    obtain ⟨ihP, ihT, ihM⟩ := ih
    have P : ∀ r o, r.length ≤ n + 1 → PowerR r o → ∀ ss q, o = .good ss q → q.length < r.length := by
      intro r o hl h ss q e
      cases h with
      | openBad t => cases e
      | openNo t h => cases e
      | @openOk r' ss' q' t =>
        cases e
        have := ihT r' _ (by simpa using hl) t _ _ rfl
        have h2 := powers_len q'
        simp at this ⊢
        omega
      | @name c r' h =>
        cases e
        have h2 := powers_len r'
        simp
        omega
    have M : ∀ ts r o, r.length ≤ n + 1 → MoreR ts r o → ∀ ss q, o = .good ss q → q.length ≤ r.length := by
      intro ts r o hl h ss q e
      cases h with
      | stop h => cases e; exact Nat.le_refl _
      | bad h p => cases e
      | good h p m =>
        have h1 := P _ _ hl p _ _ rfl
        have h2 := ihM _ _ _ (by omega) m _ _ e
        omega
    refine ⟨P, ?_, M⟩
    intro r o hl h ss q e
    cases h with
    | nil => cases e
    | one => cases e; simp
    | no h1 h2 => cases e
    | bad h p => cases e
    | good h p m =>
      have h1 := P _ _ hl p _ _ rfl
      have h2 := M _ _ _ (by omega) m _ _ e
      omega
theorem power_len {r : List Nat} {ss : List Step} {q : List Nat} (h : PowerR r (.good ss q)) : q.length < r.length := (lens r.length).1 r _ (Nat.le_refl _) h _ _ rfl
theorem term_len {r : List Nat} {ss : List Step} {q : List Nat} (h : TermR r (.good ss q)) : q.length < r.length := (lens r.length).2.1 r _ (Nat.le_refl _) h _ _ rfl

theorem powers_size : ∀ r : List Nat, (powers r).1.length + (powers r).2.length = r.length
  | [] => rfl
  | c :: r => by
    have ih := powers_size r
    cases hp : isPow c with
    | false => rw [powers_no hp]; simp
    | true => rw [powers_yes hp]; simp; omega
theorem sizes : ∀ n : Nat, (∀ r o, r.length ≤ n → PowerR r o → ∀ ss q, o = .good ss q → ss.length + 1 + 2 * q.length ≤ 2 * r.length) ∧ (∀ r o, r.length ≤ n → TermR r o → ∀ ss q, o = .good ss q → ss.length + 2 * q.length ≤ 2 * r.length) ∧
    (∀ ts r o, r.length ≤ n → MoreR ts r o → ∀ ss q, o = .good ss q → ss.length + 2 * q.length ≤ ts.length + 2 * r.length) := by
  intro n
  induction n with
  | zero =>
    refine ⟨fun r o hl h ss q e => ?_, fun r o hl h ss q e => ?_, fun ts r o hl h ss q e => ?_⟩
    · cases h <;> simp at hl
    · cases h <;> simp at hl e
    · cases h with
      | stop h => cases e; exact Nat.le_refl _
      | bad h p => cases e
      | good h p m => cases r <;> simp [headFac] at h hl
  | succ n ih =>
    obtain ⟨ihP, ihT, ihM⟩ := ih
    have P : ∀ r o, r.length ≤ n + 1 → PowerR r o → ∀ ss q, o = .good ss q → ss.length + 1 + 2 * q.length ≤ 2 * r.length := by
      intro r o hl h ss q e
      cases h with
      | openBad t => cases e
      | openNo t h => cases e
      | @openOk r' ss' q' t =>
        cases e
        have := ihT r' _ (by simpa using hl) t _ _ rfl
        have h2 := powers_size q'
        simp at this ⊢
        omega
      | @name c r' h =>
        cases e
        have h2 := powers_size r'
        simp
        omega
    have M : ∀ ts r o, r.length ≤ n + 1 → MoreR ts r o → ∀ ss q, o = .good ss q → ss.length + 2 * q.length ≤ ts.length + 2 * r.length := by
      intro ts r o hl h ss q e
      cases h with
      | stop h => cases e; exact Nat.le_refl _
      | bad h p => cases e
      | good h p m =>
        have h0 := power_len p
        have h1 := P _ _ hl p _ _ rfl
        have h2 := ihM _ _ _ (by omega) m _ _ e
        simp at h2
        omega
    refine ⟨P, ?_, M⟩
    intro r o hl h ss q e
    cases h with
    | nil => cases e
    | one => cases e; simp; omega
    | no h1 h2 => cases e
    | bad h p => cases e
    | good h p m =>
      have h0 := power_len p
      have h1 := P _ _ hl p _ _ rfl
      have h2 := M _ _ _ (by omega) m _ _ e
      omega
theorem power_size {r : List Nat} {ss : List Step} {q : List Nat} (h : PowerR r (.good ss q)) : ss.length + 1 + 2 * q.length ≤ 2 * r.length := (sizes r.length).1 r _ (Nat.le_refl _) h _ _ rfl
theorem term_size {r : List Nat} {ss : List Step} {q : List Nat} (h : TermR r (.good ss q)) : ss.length + 2 * q.length ≤ 2 * r.length := (sizes r.length).2.1 r _ (Nat.le_refl _) h _ _ rfl

theorem headFac_cons {r : List Nat} (h : headFac r = true) : ∃ c q, r = c :: q ∧ isFac c = true := by
  cases r with
  | nil => cases h
  | cons c q => exact ⟨c, q, rfl, h⟩
theorem fac_cases {c : Nat} (h : isFac c = true) : c = 40 ∨ isName c = true := by
  unfold isFac at h
  rcases Bool.or_eq_true _ _ |>.mp h with h | h
  · exact .inr h
  · exact .inl (by simpa using h)

/-- there is always an outcome -/
theorem total : ∀ n : Nat, (∀ r, r.length ≤ n → headFac r = true → ∃ o, PowerR r o) ∧ (∀ r, r.length ≤ n → ∃ o, TermR r o) ∧ (∀ ss r, r.length ≤ n → ∃ o, MoreR ss r o) := by
  intro n
  induction n with
  | zero =>
    refine ⟨fun r hl h => ?_, fun r hl => ?_, fun ss r hl => ?_⟩
    · cases r <;> simp [headFac] at hl h
    · cases r with
      | nil => exact ⟨_, .nil⟩
      | cons c r => simp at hl
    · cases r with
      | nil => exact ⟨_, .stop rfl⟩
      | cons c r => simp at hl
  | succ n ih =>
    obtain ⟨ihP, ihT, ihM⟩ := ih
    have P : ∀ r, r.length ≤ n + 1 → headFac r = true → ∃ o, PowerR r o := by
      intro r hl h
      obtain ⟨c, q, rfl, hc⟩ := headFac_cons h
      rcases fac_cases hc with rfl | hn
      · obtain ⟨o, t⟩ := ihT q (by simpa using hl)
        cases o with
        | bad q' => exact ⟨_, .openBad t⟩
        | good ss q' =>
          by_cases h41 : q'.head? = some 41
          · cases q' with
            | nil => cases h41
            | cons d q2 =>
              have e : d = 41 := by simpa using h41
              subst e
              exact ⟨_, .openOk t⟩
          · exact ⟨_, .openNo t h41⟩
      · exact ⟨_, .name hn⟩
    have M : ∀ ss r, r.length ≤ n + 1 → ∃ o, MoreR ss r o := by
      intro ss r hl
      cases hf : headFac r with
      | false => exact ⟨_, .stop hf⟩
      | true =>
        obtain ⟨o, p⟩ := P r hl hf
        cases o with
        | bad q => exact ⟨_, .bad hf p⟩
        | good ts q =>
          have := power_len p
          obtain ⟨o, m⟩ := ihM (ss ++ ts ++ [.times]) q (by omega)
          exact ⟨o, .good hf p m⟩
    refine ⟨P, ?_, M⟩
    intro r hl
    cases r with
    | nil => exact ⟨_, .nil⟩
    | cons c r =>
      by_cases h1 : c = 49
      · subst h1; exact ⟨_, .one⟩
      · cases hf : isFac c with
        | false => exact ⟨_, .no h1 hf⟩
        | true =>
          obtain ⟨o, p⟩ := P (c :: r) hl hf
          cases o with
          | bad q => exact ⟨_, .bad hf p⟩
          | good ts q =>
            have h2 := power_len p
            obtain ⟨o, m⟩ := M ts q (by omega)
            exact ⟨o, .good hf p m⟩
theorem term_total (r : List Nat) : ∃ o, TermR r o := (total r.length).2.1 r (Nat.le_refl _)

/-! the automaton goes along -/
theorem fault_cons {m : Mood} {c : Nat} {r : List Nat} {d : Nat} {s : Bool} (h : isOpen m c d s = true) : fault (c :: r) m d s = fault r (stepM m c) (stepD d c) (stepS s c) := by
  show (if isOpen m c d s = true then _ else _) = _
  rw [if_pos h]
theorem fault_stop {m : Mood} {c : Nat} {r : List Nat} {d : Nat} {s : Bool} (h : isOpen m c d s = false) : fault (c :: r) m d s = some (c :: r) := by
  show (if isOpen m c d s = true then _ else _) = _
  rw [if_neg (by rw [h]; decide)]
theorem name_cases {c : Nat} (h : isName c = true) : c = 119 ∨ c = 120 ∨ c = 121 ∨ c = 122 := by
  simp only [isName, Bool.or_eq_true, beq_iff_eq] at h
  omega
theorem pow_cases {c : Nat} (h : isPow c = true) : c = 94 ∨ c = 126 := by
  simp only [isPow, Bool.or_eq_true, beq_iff_eq] at h
  omega
theorem powers_fault : ∀ (r : List Nat) (d : Nat) (s : Bool), fault r .factor d s = fault (powers r).2 .factor d s
  | [], _, _ => rfl
  | c :: r, d, s => by
    cases hp : isPow c with
    | false =>
      rw [powers_no hp]
    | true =>
      have e : (powers (c :: r)).2 = (powers r).2 := by rw [powers_yes hp]
      rw [e, ← powers_fault r d s]
      rcases pow_cases hp with rfl | rfl
      · exact fault_cons rfl
      · exact fault_cons rfl
theorem name_fault {c : Nat} (h : isName c = true) {m : Mood} (hm : m ≠ .one) (r : List Nat) (d : Nat) (s : Bool) : fault (c :: r) m d s = fault r .factor d s := by
  rcases name_cases h with rfl | rfl | rfl | rfl <;> cases m <;> first | exact absurd rfl hm | exact fault_cons rfl
theorem open_fault {m : Mood} (hm : m ≠ .one) (r : List Nat) (d : Nat) (s : Bool) : fault (40 :: r) m d s = fault r .begin (d + 1) s := by
  cases m <;> first | exact absurd rfl hm | exact fault_cons rfl
theorem close_fault {m : Mood} (hm : m ≠ .begin) (r : List Nat) (d : Nat) (s : Bool) : fault (41 :: r) m (d + 1) s = fault r .factor d s := by
  cases m <;> first | exact absurd rfl hm | exact fault_cons (by simp [isOpen])
/-- behind a term nothing but a bracket or the = can come -/
def Done (m : Mood) (q : List Nat) : Prop := m = .one ∨ (m = .factor ∧ headFac q = false ∧ headPow q = false)
theorem Done.nb {m : Mood} {q : List Nat} (h : Done m q) : m ≠ .begin := by
  rcases h with rfl | ⟨rfl, _⟩ <;> decide
theorem done_stop {m : Mood} {c : Nat} {q : List Nat} {d : Nat} {s : Bool} (h : Done m (c :: q)) (h1 : c = 41 → d = 0) (h2 : c = 61 → d ≠ 0 ∨ s = true) : fault (c :: q) m d s = some (c :: q) := by
  refine fault_stop ?_
  unfold isOpen
  rw [if_neg h.nb]
  by_cases e : c = 41
  · rw [if_pos e, h1 e]
    rfl
  · rw [if_neg e]
    by_cases e2 : c = 61
    · rw [if_pos e2]
      rcases h2 e2 with q | q
      · have : (d == 0) = false := by simpa using q
        rw [this]; rfl
      · rw [q]; simp
    · rw [if_neg e2]
      rcases h with rfl | ⟨rfl, h3, h4⟩
      · rfl
      · have h3' : isFac c = false := h3
        have h4' : isPow c = false := h4
        rw [h3', h4']
        rfl

theorem along : ∀ n : Nat,
    (∀ r o, r.length ≤ n → PowerR r o → ∀ m d s, m ≠ Mood.one → (∀ q, o = .bad q → fault r m d s = some q) ∧ (∀ ss q, o = .good ss q → headPow q = false ∧ fault r m d s = fault q .factor d s)) ∧
    (∀ r o, r.length ≤ n → TermR r o → ∀ d s, (∀ q, o = .bad q → fault r .begin d s = some q) ∧ (∀ ss q, o = .good ss q → ∃ m, Done m q ∧ fault r .begin d s = fault q m d s)) ∧
    (∀ ts r o, r.length ≤ n → headPow r = false → MoreR ts r o → ∀ d s, (∀ q, o = .bad q → fault r .factor d s = some q) ∧ (∀ ss q, o = .good ss q → headFac q = false ∧ headPow q = false ∧ fault r .factor d s = fault q .factor d s)) := by
  intro n
  induction n with
  | zero =>
    refine ⟨fun r o hl h m d s hm => ?_, fun r o hl h d s => ?_, fun ts r o hl hp h d s => ?_⟩
    · cases h <;> simp at hl
    · cases h with
      | nil =>
        refine ⟨fun q e => ?_, fun ss q e => (nomatch e)⟩
        cases e
        show (if (s && d == 0 && decide (Mood.begin ≠ .begin)) = true then _ else _) = _
        rw [if_neg (by simp)]
      | _ => simp at hl
    · cases h with
      | stop h => exact ⟨fun q e => (nomatch e), fun ss q e => by cases e; exact ⟨h, hp, rfl⟩⟩
      | bad h p => cases r <;> simp [headFac] at h hl
      | good h p m => cases r <;> simp [headFac] at h hl
  | succ n ih =>
    obtain ⟨ihP, ihT, ihM⟩ := ih
    have P : ∀ r o, r.length ≤ n + 1 → PowerR r o → ∀ m d s, m ≠ Mood.one → (∀ q, o = .bad q → fault r m d s = some q) ∧ (∀ ss q, o = .good ss q → headPow q = false ∧ fault r m d s = fault q .factor d s) := by
      intro r o hl h m d s hm
      cases h with
      | @openBad r' q' t =>
        obtain ⟨h1, _⟩ := ihT r' _ (by simpa using hl) t (d + 1) s
        refine ⟨fun q e => ?_, fun ss q e => (nomatch e)⟩
        cases e
        rw [open_fault hm]
        exact h1 _ rfl
      | @openNo r' ss' q' t h41 =>
        obtain ⟨_, h2⟩ := ihT r' _ (by simpa using hl) t (d + 1) s
        refine ⟨fun q e => ?_, fun ss q e => (nomatch e)⟩
        cases e
        obtain ⟨m', dn, e⟩ := h2 _ _ rfl
        rw [open_fault hm, e]
        cases q' with
        | nil =>
          show (if (s && (d + 1) == 0 && decide (m' ≠ .begin)) = true then _ else _) = _
          rw [if_neg (by simp)]
        | cons c q2 =>
          refine done_stop dn (fun e => ?_) fun e => .inl (Nat.succ_ne_zero d)
          subst e
          exact absurd rfl h41
      | @openOk r' ss' q' t =>
        obtain ⟨_, h2⟩ := ihT r' _ (by simpa using hl) t (d + 1) s
        refine ⟨fun q e => (nomatch e), fun ss q e => ?_⟩
        cases e
        obtain ⟨m', dn, e⟩ := h2 _ _ rfl
        refine ⟨powers_head _, ?_⟩
        rw [open_fault hm, e, close_fault dn.nb, powers_fault]
      | @name c r' h =>
        refine ⟨fun q e => (nomatch e), fun ss q e => ?_⟩
        cases e
        refine ⟨powers_head _, ?_⟩
        rw [name_fault h hm, powers_fault]
    have M : ∀ ts r o, r.length ≤ n + 1 → headPow r = false → MoreR ts r o → ∀ d s, (∀ q, o = .bad q → fault r .factor d s = some q) ∧ (∀ ss q, o = .good ss q → headFac q = false ∧ headPow q = false ∧ fault r .factor d s = fault q .factor d s) := by
      intro ts r o hl hp h d s
      cases h with
      | stop h => exact ⟨fun q e => (nomatch e), fun ss q e => by cases e; exact ⟨h, hp, rfl⟩⟩
      | bad h p =>
        refine ⟨fun q e => ?_, fun ss q e => (nomatch e)⟩
        cases e
        exact (P _ _ hl p .factor d s (by decide)).1 _ rfl
      | good h p m =>
        have h1 := power_len p
        obtain ⟨hq, e1⟩ := (P _ _ hl p .factor d s (by decide)).2 _ _ rfl
        rw [e1]
        exact ihM _ _ _ (by omega) hq m d s
    refine ⟨P, ?_, M⟩
    intro r o hl h d s
    cases h with
    | nil => simp_all [fault]
    | @one r' =>
      refine ⟨fun q e => (nomatch e), fun ss q e => ?_⟩
      cases e
      exact ⟨.one, .inl rfl, fault_cons rfl⟩
    | @no c r' h1 h2 =>
      refine ⟨fun q e => ?_, fun ss q e => (nomatch e)⟩
      cases e
      refine fault_stop ?_
      show (c == 49 || isFac c) = false
      rw [h2]
      simpa using h1
    | @bad c r' q' h p =>
      refine ⟨fun q e => ?_, fun ss q e => (nomatch e)⟩
      cases e
      exact (P _ _ hl p .begin d s (by decide)).1 _ rfl
    | @good c r' ss' q' o' h p m =>
      have h1 := power_len p
      obtain ⟨hq, e1⟩ := (P _ _ hl p .begin d s (by decide)).2 _ _ rfl
      obtain ⟨m1, m2⟩ := M _ _ _ (by omega) hq m d s
      refine ⟨fun q e => ?_, fun ss q e => ?_⟩
      · rw [e1]; exact m1 q e
      · obtain ⟨a, b, c⟩ := m2 ss q e
        exact ⟨.factor, .inr ⟨rfl, a, b⟩, by rw [e1]; exact c⟩
theorem term_bad {r q : List Nat} (h : TermR r (.bad q)) (d : Nat) (s : Bool) : fault r .begin d s = some q := ((along r.length).2.1 r _ (Nat.le_refl _) h d s).1 _ rfl
theorem term_good {r q : List Nat} {ss : List Step} (h : TermR r (.good ss q)) (d : Nat) (s : Bool) : ∃ m, Done m q ∧ fault r .begin d s = fault q m d s := ((along r.length).2.1 r _ (Nat.le_refl _) h d s).2 _ _ rfl

/-! the names -/
theorem powers_names : ∀ r : List Nat, ∃ p, r = p ++ (powers r).2 ∧ (∀ c, Step.name c ∉ (powers r).1) ∧ ∀ c, isName c = true → c ∉ p
  | [] => ⟨[], rfl, fun _ h => (by cases h), fun _ _ h => (by cases h)⟩
  | c :: r => by
    obtain ⟨p, e, h1, h2⟩ := powers_names r
    cases hp : isPow c with
    | false =>
      rw [powers_no hp]
      exact ⟨[], rfl, fun _ h => (nomatch h), fun _ _ h => (nomatch h)⟩
    | true =>
      rw [powers_yes hp]
      refine ⟨c :: p, by rw [List.cons_append, ← e], fun x h => ?_, fun x hx h => ?_⟩
      · rcases List.mem_cons.mp h with h | h
        · split at h <;> cases h
        · exact h1 x h
      · rcases List.mem_cons.mp h with h | h
        · subst h
          rcases pow_cases hp with rfl | rfl <;> cases hx
        · exact h2 x hx h
def NamesAs (ss : List Step) (p : List Nat) : Prop := ∀ c, isName c = true → (Step.name c ∈ ss ↔ c ∈ p)
theorem names : ∀ n : Nat,
    (∀ r o, r.length ≤ n → PowerR r o → ∀ ss q, o = .good ss q → ∃ p, r = p ++ q ∧ NamesAs ss p) ∧
    (∀ r o, r.length ≤ n → TermR r o → ∀ ss q, o = .good ss q → ∃ p, r = p ++ q ∧ NamesAs ss p) ∧
    (∀ ts r o, r.length ≤ n → MoreR ts r o → ∀ p0, NamesAs ts p0 → ∀ ss q, o = .good ss q → ∃ p, r = p ++ q ∧ NamesAs ss (p0 ++ p)) := by
  intro n
  induction n with
  | zero =>
    refine ⟨fun r o hl h ss q e => ?_, fun r o hl h ss q e => ?_, fun ts r o hl h p0 h0 ss q e => ?_⟩
    · cases h <;> simp at hl
    · cases h <;> simp at hl e
    · cases h with
      | stop h => cases e; exact ⟨[], rfl, by simpa using h0⟩
      | bad h p => cases e
      | good h p m => cases r <;> simp [headFac] at h hl
  | succ n ih =>
    obtain ⟨ihP, ihT, ihM⟩ := ih
    have P : ∀ r o, r.length ≤ n + 1 → PowerR r o → ∀ ss q, o = .good ss q → ∃ p, r = p ++ q ∧ NamesAs ss p := by
      intro r o hl h ss q e
      cases h with
      | openBad t => cases e
      | openNo t h => cases e
      | @openOk r' ss' q' t =>
        cases e
        obtain ⟨p, e1, h1⟩ := ihT r' _ (by simpa using hl) t _ _ rfl
        obtain ⟨p2, e2, h2, h3⟩ := powers_names q'
        refine ⟨40 :: p ++ 41 :: p2, ?_, fun c hc => ?_⟩
        · rw [e1, List.cons_append, List.cons_append, List.append_assoc, List.cons_append, ← e2]
        · have n40 : c ≠ 40 := by rintro rfl; cases hc
          have n41 : c ≠ 41 := by rintro rfl; cases hc
          have := h1 c hc
          have a := h2 c
          have b := h3 c hc
          simp [n40, n41, this, a, b]
      | @name c' r' h =>
        cases e
        obtain ⟨p2, e2, h2, h3⟩ := powers_names r'
        refine ⟨c' :: p2, by rw [List.cons_append, ← e2], fun c hc => ?_⟩
        have a := h2 c
        have b := h3 c hc
        simp [a, b]
    have M : ∀ ts r o, r.length ≤ n + 1 → MoreR ts r o → ∀ p0, NamesAs ts p0 → ∀ ss q, o = .good ss q → ∃ p, r = p ++ q ∧ NamesAs ss (p0 ++ p) := by
      intro ts r o hl h p0 h0 ss q e
      cases h with
      | stop h => cases e; exact ⟨[], rfl, by simpa using h0⟩
      | bad h p => cases e
      | @good _ _ ts' q' _ h p m =>
        have hl2 := power_len p
        obtain ⟨p1, e1, h1⟩ := P _ _ hl p _ _ rfl
        have h2 : NamesAs (ts ++ ts' ++ [.times]) (p0 ++ p1) := fun c hc => by
          have a := h0 c hc
          have b := h1 c hc
          simp [a, b]
        obtain ⟨p3, e3, h3⟩ := ihM _ _ _ (by omega) m _ h2 _ _ e
        exact ⟨p1 ++ p3, by rw [e1, e3, List.append_assoc], by rw [← List.append_assoc]; exact h3⟩
    refine ⟨P, ?_, M⟩
    intro r o hl h ss q e
    cases h with
    | nil => cases e
    | @one r' =>
      cases e
      refine ⟨[49], rfl, fun c hc => ?_⟩
      have n49 : c ≠ 49 := by rintro rfl; cases hc
      simp [n49]
    | no h1 h2 => cases e
    | bad h p => cases e
    | @good c r' ss' q' o' h p m =>
      have hl2 := power_len p
      obtain ⟨p1, e1, h1⟩ := P _ _ hl p _ _ rfl
      obtain ⟨p3, e3, h3⟩ := M _ _ _ (by omega) m _ h1 _ _ e
      exact ⟨p1 ++ p3, by rw [e1, e3, List.append_assoc], h3⟩
theorem term_names {r q : List Nat} {ss : List Step} (h : TermR r (.good ss q)) : ∃ p, r = p ++ q ∧ NamesAs ss p := (names r.length).2.1 r _ (Nat.le_refl _) h _ _ rfl

/-! both terms -/
/-- what reading a text comes to: what is left at the error, or the steps of both terms -/
inductive Both : List Nat → (List Nat) ⊕ (List Step × List Step) → Prop
  | bad1 {t q} (h : TermR t (.bad q)) : Both t (.inl q)
  | noEq {t ss q} (h : TermR t (.good ss q)) (n : q.head? ≠ some 61) : Both t (.inl q)
  | bad2 {t ss q q2} (h : TermR t (.good ss (61 :: q))) (h2 : TermR q (.bad q2)) : Both t (.inl q2)
  | rest {t ss q ss2 q2} (h : TermR t (.good ss (61 :: q))) (h2 : TermR q (.good ss2 q2)) (n : q2 ≠ []) : Both t (.inl q2)
  | good {t ss q ss2} (h : TermR t (.good ss (61 :: q))) (h2 : TermR q (.good ss2 [])) : Both t (.inr (ss, ss2))
theorem both_total (t : List Nat) : ∃ o, Both t o := by
  obtain ⟨o, h⟩ := term_total t
  cases o with
  | bad q => exact ⟨_, .bad1 h⟩
  | good ss q =>
    by_cases hq : q.head? = some 61
    · cases q with
      | nil => cases hq
      | cons c q =>
        have e : c = 61 := by simpa using hq
        subst e
        obtain ⟨o2, h2⟩ := term_total q
        cases o2 with
        | bad q2 => exact ⟨_, .bad2 h h2⟩
        | good ss2 q2 =>
          cases q2 with
          | nil => exact ⟨_, .good h h2⟩
          | cons c2 q2 => exact ⟨_, .rest h h2 (by simp)⟩
    · exact ⟨_, .noEq h hq⟩
theorem eq_fault {m : Mood} {q : List Nat} (h : m ≠ .begin) : fault (61 :: q) m 0 false = fault q .begin 0 true := by
  cases m <;> first | exact absurd rfl h | exact fault_cons rfl
theorem both_bad {t q : List Nat} (h : Both t (.inl q)) : fault t .begin 0 false = some q := by
  cases h with
  | bad1 h => exact term_bad h _ _
  | noEq h n =>
    obtain ⟨m, dn, e⟩ := term_good h 0 false
    rw [e]
    cases q with
    | nil => rfl
    | cons c q =>
      refine done_stop dn (fun _ => rfl) fun e => ?_
      subst e
      exact absurd rfl n
  | bad2 h h2 =>
    obtain ⟨m, dn, e⟩ := term_good h 0 false
    rw [e, eq_fault dn.nb]
    exact term_bad h2 _ _
  | rest h h2 n =>
    obtain ⟨m, dn, e⟩ := term_good h 0 false
    obtain ⟨m2, dn2, e2⟩ := term_good h2 0 true
    rw [e, eq_fault dn.nb, e2]
    cases q with
    | nil => exact absurd rfl n
    | cons c q => exact done_stop dn2 (fun _ => rfl) fun _ => .inr rfl
theorem both_good {t : List Nat} {ss ss2 : List Step} (h : Both t (.inr (ss, ss2))) : fault t .begin 0 false = none ∧ ∀ c, isName c = true → ((Step.name c ∈ ss ∨ Step.name c ∈ ss2) ↔ c ∈ t) := by
  cases h with
  | good h h2 =>
    rename_i q
    obtain ⟨m, dn, e⟩ := term_good h 0 false
    obtain ⟨m2, dn2, e2⟩ := term_good h2 0 true
    refine ⟨?_, fun c hc => ?_⟩
    · rw [e, eq_fault dn.nb, e2]
      show (if (true && (0 : Nat) == 0 && decide (m2 ≠ .begin)) = true then none else some []) = none
      rw [if_pos (by simpa using dn2.nb)]
    · obtain ⟨p, e1, h1⟩ := term_names h
      obtain ⟨p2, e3, h3⟩ := term_names h2
      have n61 : c ≠ 61 := by rintro rfl; cases hc
      rw [h1 c hc, h3 c hc, e1, e3]
      simp [n61]

/-! drawn terms are terms -/
def GoodT (T : List Nat) : Prop := ∃ m, m ≠ Mood.begin ∧ ∀ d s r, fault (T ++ r) .begin d s = fault r m d s
/-- factors: behind the begin of a term or behind a factor -/
def GoodF (T : List Nat) : Prop := ∀ m d s r, m ≠ Mood.one → fault (T ++ r) m d s = fault r .factor d s
theorem goodT_one : GoodT [49] := ⟨.one, by decide, fun d s r => fault_cons rfl⟩
theorem GoodF.t {T : List Nat} (h : GoodF T) : GoodT T := ⟨.factor, by decide, fun d s r => h .begin d s r (by decide)⟩
theorem goodF_name {c : Nat} (h : isName c = true) : GoodF [c] := fun m d s r hm => name_fault h hm r d s
theorem goodF_paren {T : List Nat} (h : GoodT T) : GoodF (40 :: (T ++ [41])) := fun m d s r hm => by
  obtain ⟨m', hm', e⟩ := h
  rw [List.cons_append, open_fault hm, List.append_assoc, e, List.singleton_append, close_fault hm']
theorem goodF_pow {T P : List Nat} (h : GoodF T) (hp : ∀ c ∈ P, isPow c = true) : GoodF (T ++ P) := fun m d s r hm => by
  rw [List.append_assoc, h m d s _ hm]
  clear h
  induction P with
  | nil => rfl
  | cons c P ih =>
    rw [List.cons_append]
    have e : fault (c :: (P ++ r)) .factor d s = fault (P ++ r) .factor d s := by
      rcases pow_cases (hp c (List.mem_cons_self ..)) with rfl | rfl <;> exact fault_cons rfl
    rw [e]
    exact ih fun x hx => hp x (List.mem_cons_of_mem _ hx)
theorem goodF_app {T U : List Nat} (h : GoodF T) (h2 : GoodF U) : GoodF (T ++ U) := fun m d s r hm => by
  rw [List.append_assoc, h m d s _ hm, h2 .factor d s r (by decide)]
theorem whole {T U : List Nat} (h : GoodT T) (h2 : GoodT U) : fault (T ++ 61 :: U) .begin 0 false = none := by
  obtain ⟨m, hm, e⟩ := h
  obtain ⟨m2, hm2, e2⟩ := h2
  rw [e, eq_fault hm]
  have := e2 0 true []
  rw [List.append_nil] at this
  rw [this]
  show (if (true && (0 : Nat) == 0 && decide (m2 ≠ .begin)) = true then none else some []) = none
  rw [if_pos (by simpa using hm2)]
end M81

set_option Elab.async false
set_option linter.all false
set_option maxRecDepth 100000
set_option maxHeartbeats 4000000
namespace K81
open PySem PySem.Spec PyProof.Rows L2 LX
def topS (i : Nat) : Stmt := PySem.Challenge.pw_letterfolds_k81_identities_that_are_read.main.body.getD i (.Pass ⟨0, 0, 0, 0⟩)
abbrev s_NoTerm_init : Stmt := inClass (topS 2) 0
theorem sc_NoTerm_init : FnScope ["self", "place"] ["self", "place"] (defScope s_NoTerm_init) := ⟨rfl, rfl, rfl, by decide +kernel, rfl, by decide +kernel, by decide +kernel⟩
abbrev s_Reader_init : Stmt := inClass (topS 6) 0
theorem sc_Reader_init : FnScope ["self", "text"] ["self", "text"] (defScope s_Reader_init) := ⟨rfl, rfl, rfl, by decide +kernel, rfl, by decide +kernel, by decide +kernel⟩
abbrev s_Reader_sign : Stmt := inClass (topS 6) 1
theorem sc_Reader_sign : FnScope ["self"] ["self"] (defScope s_Reader_sign) := ⟨rfl, rfl, rfl, by decide +kernel, rfl, by decide +kernel, by decide +kernel⟩
abbrev s_Reader_demand : Stmt := inClass (topS 6) 2
theorem sc_Reader_demand : FnScope ["self", "sign"] ["self", "sign"] (defScope s_Reader_demand) := ⟨rfl, rfl, rfl, by decide +kernel, rfl, by decide +kernel, by decide +kernel⟩
abbrev s_Reader_is_factor : Stmt := inClass (topS 6) 3
theorem sc_Reader_is_factor : FnScope ["self"] ["self"] (defScope s_Reader_is_factor) := ⟨rfl, rfl, rfl, by decide +kernel, rfl, by decide +kernel, by decide +kernel⟩
abbrev s_Reader_term : Stmt := inClass (topS 6) 4
theorem sc_Reader_term : FnScope ["self", "found"] ["self"] (defScope s_Reader_term) := ⟨rfl, rfl, rfl, by decide +kernel, rfl, by decide +kernel, by decide +kernel⟩
abbrev s_Reader_power : Stmt := inClass (topS 6) 5
theorem sc_Reader_power : FnScope ["self", "found"] ["self"] (defScope s_Reader_power) := ⟨rfl, rfl, rfl, by decide +kernel, rfl, by decide +kernel, by decide +kernel⟩
abbrev s_two_terms : Stmt := topS 7
theorem sc_two_terms : FnScope ["text", "reader", "first", "second"] ["text"] (defScope s_two_terms) := ⟨rfl, rfl, rfl, by decide +kernel, rfl, by decide +kernel, by decide +kernel⟩
abbrev s_names_in : Stmt := topS 8
theorem sc_names_in : FnScope ["first", "second", "name"] ["first", "second"] (defScope s_names_in) := ⟨rfl, rfl, rfl, by decide +kernel, rfl, by decide +kernel, by decide +kernel⟩
abbrev s_read_identity : Stmt := topS 10
theorem sc_read_identity : FnScope ["text", "first", "second"] ["text"] (defScope s_read_identity) := ⟨rfl, rfl, rfl, by decide +kernel, rfl, by decide +kernel, by decide +kernel⟩
abbrev s__law_source : Stmt := topS 12
theorem sc__law_source : FnScope ["_law_cell"] ["_law_cell"] (defScope s__law_source) := ⟨rfl, rfl, rfl, by decide +kernel, rfl, by decide +kernel, by decide +kernel⟩
abbrev s__law_draw : Stmt := topS 13
theorem sc__law_draw : FnScope ["_law_source_here", "_law_many", "_law_mixed", "_law_digit"] ["_law_source_here", "_law_many"] (defScope s__law_draw) := ⟨rfl, rfl, rfl, by decide +kernel, rfl, by decide +kernel, by decide +kernel⟩
abbrev s__law_pick : Stmt := topS 14
theorem sc__law_pick : FnScope ["_law_source_here", "_law_some"] ["_law_source_here", "_law_some"] (defScope s__law_pick) := ⟨rfl, rfl, rfl, by decide +kernel, rfl, by decide +kernel, by decide +kernel⟩
abbrev s__law_term : Stmt := topS 15
theorem sc__law_term : FnScope ["_law_source_here", "_law_deep", "_law_found", "_law_turn", "_law_one"] ["_law_source_here", "_law_deep"] (defScope s__law_term) := ⟨rfl, rfl, rfl, by decide +kernel, rfl, by decide +kernel, by decide +kernel⟩
abbrev s__law_is_open : Stmt := topS 16
theorem sc__law_is_open : FnScope ["_law_mood", "_law_sign", "_law_depth", "_law_is_second"] ["_law_mood", "_law_sign", "_law_depth", "_law_is_second"] (defScope s__law_is_open) := ⟨rfl, rfl, rfl, by decide +kernel, rfl, by decide +kernel, by decide +kernel⟩
abbrev s__law_fault : Stmt := topS 17
theorem sc__law_fault : FnScope ["_law_text", "_law_is_whole", "_law_mood", "_law_depth", "_law_is_second", "_law_place", "_law_sign"] ["_law_text"] (defScope s__law_fault) := ⟨rfl, rfl, rfl, by decide +kernel, rfl, by decide +kernel, by decide +kernel⟩
abbrev s__law_said : Stmt := topS 18
theorem sc__law_said : FnScope ["_law_text", "e"] ["_law_text"] (defScope s__law_said) := ⟨rfl, rfl, rfl, by decide +kernel, rfl, by decide +kernel, by decide +kernel⟩
abbrev s__law_due : Stmt := topS 19
theorem sc__law_due : FnScope ["_law_text", "_law_fault_here", "_law_name"] ["_law_text"] (defScope s__law_due) := ⟨rfl, rfl, rfl, by decide +kernel, rfl, by decide +kernel, by decide +kernel⟩
abbrev s__law_right : Stmt := topS 20
theorem sc__law_right : FnScope ["_law_source_here", "_law_text", "_law_turn", "_law_at", "_law_sign", "_law_bent"] ["_law_source_here"] (defScope s__law_right) := ⟨rfl, rfl, rfl, by decide +kernel, rfl, by decide +kernel, by decide +kernel⟩
abbrev s__law_long_right : Stmt := topS 21
theorem sc__law_long_right : FnScope ["_law_deep", "_law_odd", "_law_some", "_law_text", "_law_due_here"] [] (defScope s__law_long_right) := ⟨rfl, rfl, rfl, by decide +kernel, rfl, by decide +kernel, by decide +kernel⟩
abbrev s_law : Stmt := topS 22
theorem sc_law : FnScope ["_law_script", "_law_cell", "_law_source_here", "_law_turn"] ["_law_script"] (defScope s_law) := ⟨rfl, rfl, rfl, by decide +kernel, rfl, by decide +kernel, by decide +kernel⟩
structure Gx where
  K : PySem.W.Frag
  mg : Str → Option Value
  f_NoTerm_init : Addr
  d_NoTerm_init : FuncData
  f_Reader_init : Addr
  d_Reader_init : FuncData
  f_Reader_sign : Addr
  d_Reader_sign : FuncData
  f_Reader_demand : Addr
  d_Reader_demand : FuncData
  f_Reader_is_factor : Addr
  d_Reader_is_factor : FuncData
  f_Reader_term : Addr
  d_Reader_term : FuncData
  f_Reader_power : Addr
  d_Reader_power : FuncData
  f_two_terms : Addr
  d_two_terms : FuncData
  f_names_in : Addr
  d_names_in : FuncData
  f_read_identity : Addr
  d_read_identity : FuncData
  f__law_source : Addr
  d__law_source : FuncData
  f__law_draw : Addr
  d__law_draw : FuncData
  f__law_pick : Addr
  d__law_pick : FuncData
  f__law_term : Addr
  d__law_term : FuncData
  f__law_is_open : Addr
  d__law_is_open : FuncData
  f__law_fault : Addr
  d__law_fault : FuncData
  f__law_said : Addr
  d__law_said : FuncData
  f__law_due : Addr
  d__law_due : FuncData
  f__law_right : Addr
  d__law_right : FuncData
  f__law_long_right : Addr
  d__law_long_right : FuncData
  f_law : Addr
  d_law : FuncData
  c_Reader : Addr
  c_NoTerm : Addr
  c_FoldError : Addr
structure Txt (G : Gx) : Prop where
  F_NoTerm_init : Fun G.K "__init__" "NoTerm.__init__" s_NoTerm_init G.f_NoTerm_init G.d_NoTerm_init
  b_NoTerm_init : Binds G.K G.d_NoTerm_init ["self", "place"] []
  F_Reader_init : Fun G.K "__init__" "Reader.__init__" s_Reader_init G.f_Reader_init G.d_Reader_init
  b_Reader_init : Binds G.K G.d_Reader_init ["self", "text"] []
  F_Reader_sign : Fun G.K "sign" "Reader.sign" s_Reader_sign G.f_Reader_sign G.d_Reader_sign
  b_Reader_sign : Binds G.K G.d_Reader_sign ["self"] []
  m_Reader_sign : Meth G.K G.c_Reader "sign" G.f_Reader_sign
  F_Reader_demand : Fun G.K "demand" "Reader.demand" s_Reader_demand G.f_Reader_demand G.d_Reader_demand
  b_Reader_demand : Binds G.K G.d_Reader_demand ["self", "sign"] []
  m_Reader_demand : Meth G.K G.c_Reader "demand" G.f_Reader_demand
  F_Reader_is_factor : Fun G.K "is_factor" "Reader.is_factor" s_Reader_is_factor G.f_Reader_is_factor G.d_Reader_is_factor
  b_Reader_is_factor : Binds G.K G.d_Reader_is_factor ["self"] []
  m_Reader_is_factor : Meth G.K G.c_Reader "is_factor" G.f_Reader_is_factor
  F_Reader_term : Fun G.K "term" "Reader.term" s_Reader_term G.f_Reader_term G.d_Reader_term
  b_Reader_term : Binds G.K G.d_Reader_term ["self"] []
  m_Reader_term : Meth G.K G.c_Reader "term" G.f_Reader_term
  F_Reader_power : Fun G.K "power" "Reader.power" s_Reader_power G.f_Reader_power G.d_Reader_power
  b_Reader_power : Binds G.K G.d_Reader_power ["self"] []
  m_Reader_power : Meth G.K G.c_Reader "power" G.f_Reader_power
  F_two_terms : Fun G.K "two_terms" "two_terms" s_two_terms G.f_two_terms G.d_two_terms
  b_two_terms : Binds G.K G.d_two_terms ["text"] []
  g_two_terms : G.mg "two_terms" = some (.ref G.f_two_terms)
  F_names_in : Fun G.K "names_in" "names_in" s_names_in G.f_names_in G.d_names_in
  b_names_in : Binds G.K G.d_names_in ["first", "second"] []
  g_names_in : G.mg "names_in" = some (.ref G.f_names_in)
  F_read_identity : Fun G.K "read_identity" "read_identity" s_read_identity G.f_read_identity G.d_read_identity
  b_read_identity : Binds G.K G.d_read_identity ["text"] []
  g_read_identity : G.mg "read_identity" = some (.ref G.f_read_identity)
  F__law_source : Fun G.K "_law_source" "_law_source" s__law_source G.f__law_source G.d__law_source
  b__law_source : Binds G.K G.d__law_source ["_law_cell"] []
  g__law_source : G.mg "_law_source" = some (.ref G.f__law_source)
  F__law_draw : Fun G.K "_law_draw" "_law_draw" s__law_draw G.f__law_draw G.d__law_draw
  b__law_draw : Binds G.K G.d__law_draw ["_law_source_here", "_law_many"] []
  g__law_draw : G.mg "_law_draw" = some (.ref G.f__law_draw)
  F__law_pick : Fun G.K "_law_pick" "_law_pick" s__law_pick G.f__law_pick G.d__law_pick
  b__law_pick : Binds G.K G.d__law_pick ["_law_source_here", "_law_some"] []
  g__law_pick : G.mg "_law_pick" = some (.ref G.f__law_pick)
  F__law_term : Fun G.K "_law_term" "_law_term" s__law_term G.f__law_term G.d__law_term
  b__law_term : Binds G.K G.d__law_term ["_law_source_here", "_law_deep"] []
  g__law_term : G.mg "_law_term" = some (.ref G.f__law_term)
  F__law_is_open : Fun G.K "_law_is_open" "_law_is_open" s__law_is_open G.f__law_is_open G.d__law_is_open
  b__law_is_open : Binds G.K G.d__law_is_open ["_law_mood", "_law_sign", "_law_depth", "_law_is_second"] []
  g__law_is_open : G.mg "_law_is_open" = some (.ref G.f__law_is_open)
  F__law_fault : Fun G.K "_law_fault" "_law_fault" s__law_fault G.f__law_fault G.d__law_fault
  b__law_fault : Binds G.K G.d__law_fault ["_law_text"] []
  g__law_fault : G.mg "_law_fault" = some (.ref G.f__law_fault)
  F__law_said : Fun G.K "_law_said" "_law_said" s__law_said G.f__law_said G.d__law_said
  b__law_said : Binds G.K G.d__law_said ["_law_text"] []
  g__law_said : G.mg "_law_said" = some (.ref G.f__law_said)
  F__law_due : Fun G.K "_law_due" "_law_due" s__law_due G.f__law_due G.d__law_due
  b__law_due : Binds G.K G.d__law_due ["_law_text"] []
  g__law_due : G.mg "_law_due" = some (.ref G.f__law_due)
  F__law_right : Fun G.K "_law_right" "_law_right" s__law_right G.f__law_right G.d__law_right
  b__law_right : Binds G.K G.d__law_right ["_law_source_here"] []
  g__law_right : G.mg "_law_right" = some (.ref G.f__law_right)
  F__law_long_right : Fun G.K "_law_long_right" "_law_long_right" s__law_long_right G.f__law_long_right G.d__law_long_right
  b__law_long_right : Binds G.K G.d__law_long_right [] []
  g__law_long_right : G.mg "_law_long_right" = some (.ref G.f__law_long_right)
  F_law : Fun G.K "law" "law" s_law G.f_law G.d_law
  b_law : Binds G.K G.d_law ["_law_script"] []
  g_law : G.mg "law" = some (.ref G.f_law)
  cl_Reader : Cls G.K G.c_Reader
  gc_Reader : G.mg "Reader" = some (.ref G.c_Reader)
  mk_Reader : Mk G.K G.c_Reader G.f_Reader_init
  na_Reader_text : NoAttr G.K G.c_Reader "text"
  na_Reader_spot : NoAttr G.K G.c_Reader "spot"
  gc_NoTerm : G.mg "NoTerm" = some (.ref G.c_NoTerm)
  oe_NoTerm : OexC G.K G.c_NoTerm
  xf_NoTerm : XfC G.K G.c_NoTerm
  no_NoTerm_place : PySem.W.findIn G.K (.ref G.c_NoTerm) "place" = some none
  in_NoTerm : PySem.W.findIn G.K (.ref G.c_NoTerm) "__init__" = some (some (.ref G.f_NoTerm_init)) ∧ PySem.W.typeIn G.K (.ref G.f_NoTerm_init) = some (.type "function")
  gc_FoldError : G.mg "FoldError" = some (.ref G.c_FoldError)
  exm_NoTerm_NoTerm : PySem.W.exmOne G.K (.ref G.c_NoTerm) (.ref G.c_NoTerm) = some true
  k_NAMES : ∃ u, G.mg "NAMES" = some u ∧ RelV (.str "wxyz") u
  k_MOST_TEXT : ∃ u, G.mg "MOST_TEXT" = some u ∧ RelV (.int 200) u
  n_len : G.mg "len" = none
  n_int : G.mg "int" = none
  n_abs : G.mg "abs" = none
  n_isinstance : G.mg "isinstance" = none
  n_tuple : G.mg "tuple" = none
  n_range : G.mg "range" = none
  n_enumerate : G.mg "enumerate" = none
  n_str : G.mg "str" = none
theorem all_mk {K : PySem.W.Frag} {h : Heap} {mg : Str → Option Value} (X : K.In h) (Ns : h.Ns mainGlobals mg)
    {f_NoTerm_init : Addr} {od_NoTerm_init an_NoTerm_init : Option Addr} {sl_NoTerm_init : Array (Option Value)} {oc_NoTerm_init kV_NoTerm_init dc_NoTerm_init pm_NoTerm_init cd_NoTerm_init ct_NoTerm_init : Value}
    {f_Reader_init : Addr} {od_Reader_init an_Reader_init : Option Addr} {sl_Reader_init : Array (Option Value)} {oc_Reader_init kV_Reader_init dc_Reader_init pm_Reader_init cd_Reader_init ct_Reader_init : Value}
    {f_Reader_sign : Addr} {od_Reader_sign an_Reader_sign : Option Addr} {sl_Reader_sign : Array (Option Value)} {oc_Reader_sign kV_Reader_sign dc_Reader_sign pm_Reader_sign cd_Reader_sign ct_Reader_sign : Value}
    {f_Reader_demand : Addr} {od_Reader_demand an_Reader_demand : Option Addr} {sl_Reader_demand : Array (Option Value)} {oc_Reader_demand kV_Reader_demand dc_Reader_demand pm_Reader_demand cd_Reader_demand ct_Reader_demand : Value}
    {f_Reader_is_factor : Addr} {od_Reader_is_factor an_Reader_is_factor : Option Addr} {sl_Reader_is_factor : Array (Option Value)} {oc_Reader_is_factor kV_Reader_is_factor dc_Reader_is_factor pm_Reader_is_factor cd_Reader_is_factor ct_Reader_is_factor : Value}
    {f_Reader_term : Addr} {od_Reader_term an_Reader_term : Option Addr} {sl_Reader_term : Array (Option Value)} {oc_Reader_term kV_Reader_term dc_Reader_term pm_Reader_term cd_Reader_term ct_Reader_term : Value}
    {f_Reader_power : Addr} {od_Reader_power an_Reader_power : Option Addr} {sl_Reader_power : Array (Option Value)} {oc_Reader_power kV_Reader_power dc_Reader_power pm_Reader_power cd_Reader_power ct_Reader_power : Value}
    {f_two_terms : Addr} {od_two_terms an_two_terms : Option Addr} {sl_two_terms : Array (Option Value)} {oc_two_terms kV_two_terms dc_two_terms pm_two_terms cd_two_terms ct_two_terms : Value}
    {f_names_in : Addr} {od_names_in an_names_in : Option Addr} {sl_names_in : Array (Option Value)} {oc_names_in kV_names_in dc_names_in pm_names_in cd_names_in ct_names_in : Value}
    {f_read_identity : Addr} {od_read_identity an_read_identity : Option Addr} {sl_read_identity : Array (Option Value)} {oc_read_identity kV_read_identity dc_read_identity pm_read_identity cd_read_identity ct_read_identity : Value}
    {f__law_source : Addr} {od__law_source an__law_source : Option Addr} {sl__law_source : Array (Option Value)} {oc__law_source kV__law_source dc__law_source pm__law_source cd__law_source ct__law_source : Value}
    {f__law_draw : Addr} {od__law_draw an__law_draw : Option Addr} {sl__law_draw : Array (Option Value)} {oc__law_draw kV__law_draw dc__law_draw pm__law_draw cd__law_draw ct__law_draw : Value}
    {f__law_pick : Addr} {od__law_pick an__law_pick : Option Addr} {sl__law_pick : Array (Option Value)} {oc__law_pick kV__law_pick dc__law_pick pm__law_pick cd__law_pick ct__law_pick : Value}
    {f__law_term : Addr} {od__law_term an__law_term : Option Addr} {sl__law_term : Array (Option Value)} {oc__law_term kV__law_term dc__law_term pm__law_term cd__law_term ct__law_term : Value}
    {f__law_is_open : Addr} {od__law_is_open an__law_is_open : Option Addr} {sl__law_is_open : Array (Option Value)} {oc__law_is_open kV__law_is_open dc__law_is_open pm__law_is_open cd__law_is_open ct__law_is_open : Value}
    {f__law_fault : Addr} {od__law_fault an__law_fault : Option Addr} {sl__law_fault : Array (Option Value)} {oc__law_fault kV__law_fault dc__law_fault pm__law_fault cd__law_fault ct__law_fault : Value}
    {f__law_said : Addr} {od__law_said an__law_said : Option Addr} {sl__law_said : Array (Option Value)} {oc__law_said kV__law_said dc__law_said pm__law_said cd__law_said ct__law_said : Value}
    {f__law_due : Addr} {od__law_due an__law_due : Option Addr} {sl__law_due : Array (Option Value)} {oc__law_due kV__law_due dc__law_due pm__law_due cd__law_due ct__law_due : Value}
    {f__law_right : Addr} {od__law_right an__law_right : Option Addr} {sl__law_right : Array (Option Value)} {oc__law_right kV__law_right dc__law_right pm__law_right cd__law_right ct__law_right : Value}
    {f__law_long_right : Addr} {od__law_long_right an__law_long_right : Option Addr} {sl__law_long_right : Array (Option Value)} {oc__law_long_right kV__law_long_right dc__law_long_right pm__law_long_right cd__law_long_right ct__law_long_right : Value}
    {f_law : Addr} {od_law an_law : Option Addr} {sl_law : Array (Option Value)} {oc_law kV_law dc_law pm_law cd_law ct_law : Value}
    {c_Reader : Addr}
    {c_NoTerm : Addr}
    {nm_NoTerm q_NoTerm : Str} {N_NoTerm : Addr} {bs_NoTerm bm_NoTerm : List Value} {sn_NoTerm : List Str} {sub_NoTerm : List Value} {ab_NoTerm : Bool} {col_NoTerm : Option Bool} {dd_NoTerm : Option Addr} {m0_NoTerm m1_NoTerm m2_NoTerm m3_NoTerm m5_NoTerm : Option Value}
    {c_FoldError : Addr}
    {u_NAMES : Value}
    {u_MOST_TEXT : Value}
    (a_NoTerm_init : PySem.W.findIn K (.ref c_NoTerm) "__init__" = some (some (.ref f_NoTerm_init)))
    (t_NoTerm_init : PySem.W.typeIn K (.ref f_NoTerm_init) = some (.type "function"))
    (l_NoTerm_init : K.lookup f_NoTerm_init = some ⟨oc_NoTerm_init, od_NoTerm_init, .func (PySem.W.fnOf "__init__" "NoTerm.__init__" (defArgs s_NoTerm_init) (defBody s_NoTerm_init) (defScope s_NoTerm_init) .none kV_NoTerm_init dc_NoTerm_init pm_NoTerm_init an_NoTerm_init cd_NoTerm_init ct_NoTerm_init), sl_NoTerm_init⟩)
    (e_NoTerm_init : PySem.W.codeIn K cd_NoTerm_init "NoTerm.__init__" = true)
    (k_NoTerm_init : PySem.W.keepIn K (.ref f_NoTerm_init) = true)
    (a_Reader_init : PySem.W.findIn K (.ref c_Reader) "__init__" = some (some (.ref f_Reader_init)))
    (i_Reader_init : PySem.W.isFn K (.ref f_Reader_init) = true)
    (l_Reader_init : K.lookup f_Reader_init = some ⟨oc_Reader_init, od_Reader_init, .func (PySem.W.fnOf "__init__" "Reader.__init__" (defArgs s_Reader_init) (defBody s_Reader_init) (defScope s_Reader_init) .none kV_Reader_init dc_Reader_init pm_Reader_init an_Reader_init cd_Reader_init ct_Reader_init), sl_Reader_init⟩)
    (e_Reader_init : PySem.W.codeIn K cd_Reader_init "Reader.__init__" = true)
    (k_Reader_init : PySem.W.keepIn K (.ref f_Reader_init) = true)
    (a_Reader_sign : PySem.W.findIn K (.ref c_Reader) "sign" = some (some (.ref f_Reader_sign)))
    (i_Reader_sign : PySem.W.isFn K (.ref f_Reader_sign) = true)
    (l_Reader_sign : K.lookup f_Reader_sign = some ⟨oc_Reader_sign, od_Reader_sign, .func (PySem.W.fnOf "sign" "Reader.sign" (defArgs s_Reader_sign) (defBody s_Reader_sign) (defScope s_Reader_sign) .none kV_Reader_sign dc_Reader_sign pm_Reader_sign an_Reader_sign cd_Reader_sign ct_Reader_sign), sl_Reader_sign⟩)
    (e_Reader_sign : PySem.W.codeIn K cd_Reader_sign "Reader.sign" = true)
    (k_Reader_sign : PySem.W.keepIn K (.ref f_Reader_sign) = true)
    (a_Reader_demand : PySem.W.findIn K (.ref c_Reader) "demand" = some (some (.ref f_Reader_demand)))
    (i_Reader_demand : PySem.W.isFn K (.ref f_Reader_demand) = true)
    (l_Reader_demand : K.lookup f_Reader_demand = some ⟨oc_Reader_demand, od_Reader_demand, .func (PySem.W.fnOf "demand" "Reader.demand" (defArgs s_Reader_demand) (defBody s_Reader_demand) (defScope s_Reader_demand) .none kV_Reader_demand dc_Reader_demand pm_Reader_demand an_Reader_demand cd_Reader_demand ct_Reader_demand), sl_Reader_demand⟩)
    (e_Reader_demand : PySem.W.codeIn K cd_Reader_demand "Reader.demand" = true)
    (k_Reader_demand : PySem.W.keepIn K (.ref f_Reader_demand) = true)
    (a_Reader_is_factor : PySem.W.findIn K (.ref c_Reader) "is_factor" = some (some (.ref f_Reader_is_factor)))
    (i_Reader_is_factor : PySem.W.isFn K (.ref f_Reader_is_factor) = true)
    (l_Reader_is_factor : K.lookup f_Reader_is_factor = some ⟨oc_Reader_is_factor, od_Reader_is_factor, .func (PySem.W.fnOf "is_factor" "Reader.is_factor" (defArgs s_Reader_is_factor) (defBody s_Reader_is_factor) (defScope s_Reader_is_factor) .none kV_Reader_is_factor dc_Reader_is_factor pm_Reader_is_factor an_Reader_is_factor cd_Reader_is_factor ct_Reader_is_factor), sl_Reader_is_factor⟩)
    (e_Reader_is_factor : PySem.W.codeIn K cd_Reader_is_factor "Reader.is_factor" = true)
    (k_Reader_is_factor : PySem.W.keepIn K (.ref f_Reader_is_factor) = true)
    (a_Reader_term : PySem.W.findIn K (.ref c_Reader) "term" = some (some (.ref f_Reader_term)))
    (i_Reader_term : PySem.W.isFn K (.ref f_Reader_term) = true)
    (l_Reader_term : K.lookup f_Reader_term = some ⟨oc_Reader_term, od_Reader_term, .func (PySem.W.fnOf "term" "Reader.term" (defArgs s_Reader_term) (defBody s_Reader_term) (defScope s_Reader_term) .none kV_Reader_term dc_Reader_term pm_Reader_term an_Reader_term cd_Reader_term ct_Reader_term), sl_Reader_term⟩)
    (e_Reader_term : PySem.W.codeIn K cd_Reader_term "Reader.term" = true)
    (k_Reader_term : PySem.W.keepIn K (.ref f_Reader_term) = true)
    (a_Reader_power : PySem.W.findIn K (.ref c_Reader) "power" = some (some (.ref f_Reader_power)))
    (i_Reader_power : PySem.W.isFn K (.ref f_Reader_power) = true)
    (l_Reader_power : K.lookup f_Reader_power = some ⟨oc_Reader_power, od_Reader_power, .func (PySem.W.fnOf "power" "Reader.power" (defArgs s_Reader_power) (defBody s_Reader_power) (defScope s_Reader_power) .none kV_Reader_power dc_Reader_power pm_Reader_power an_Reader_power cd_Reader_power ct_Reader_power), sl_Reader_power⟩)
    (e_Reader_power : PySem.W.codeIn K cd_Reader_power "Reader.power" = true)
    (k_Reader_power : PySem.W.keepIn K (.ref f_Reader_power) = true)
    (a_two_terms : PySem.W.nsIn K mainGlobals "two_terms" = some (some (.ref f_two_terms)))
    (l_two_terms : K.lookup f_two_terms = some ⟨oc_two_terms, od_two_terms, .func (PySem.W.fnOf "two_terms" "two_terms" (defArgs s_two_terms) (defBody s_two_terms) (defScope s_two_terms) .none kV_two_terms dc_two_terms pm_two_terms an_two_terms cd_two_terms ct_two_terms), sl_two_terms⟩)
    (e_two_terms : PySem.W.codeIn K cd_two_terms "two_terms" = true)
    (k_two_terms : PySem.W.keepIn K (.ref f_two_terms) = true)
    (a_names_in : PySem.W.nsIn K mainGlobals "names_in" = some (some (.ref f_names_in)))
    (l_names_in : K.lookup f_names_in = some ⟨oc_names_in, od_names_in, .func (PySem.W.fnOf "names_in" "names_in" (defArgs s_names_in) (defBody s_names_in) (defScope s_names_in) .none kV_names_in dc_names_in pm_names_in an_names_in cd_names_in ct_names_in), sl_names_in⟩)
    (e_names_in : PySem.W.codeIn K cd_names_in "names_in" = true)
    (k_names_in : PySem.W.keepIn K (.ref f_names_in) = true)
    (a_read_identity : PySem.W.nsIn K mainGlobals "read_identity" = some (some (.ref f_read_identity)))
    (l_read_identity : K.lookup f_read_identity = some ⟨oc_read_identity, od_read_identity, .func (PySem.W.fnOf "read_identity" "read_identity" (defArgs s_read_identity) (defBody s_read_identity) (defScope s_read_identity) .none kV_read_identity dc_read_identity pm_read_identity an_read_identity cd_read_identity ct_read_identity), sl_read_identity⟩)
    (e_read_identity : PySem.W.codeIn K cd_read_identity "read_identity" = true)
    (k_read_identity : PySem.W.keepIn K (.ref f_read_identity) = true)
    (a__law_source : PySem.W.nsIn K mainGlobals "_law_source" = some (some (.ref f__law_source)))
    (l__law_source : K.lookup f__law_source = some ⟨oc__law_source, od__law_source, .func (PySem.W.fnOf "_law_source" "_law_source" (defArgs s__law_source) (defBody s__law_source) (defScope s__law_source) .none kV__law_source dc__law_source pm__law_source an__law_source cd__law_source ct__law_source), sl__law_source⟩)
    (e__law_source : PySem.W.codeIn K cd__law_source "_law_source" = true)
    (k__law_source : PySem.W.keepIn K (.ref f__law_source) = true)
    (a__law_draw : PySem.W.nsIn K mainGlobals "_law_draw" = some (some (.ref f__law_draw)))
    (l__law_draw : K.lookup f__law_draw = some ⟨oc__law_draw, od__law_draw, .func (PySem.W.fnOf "_law_draw" "_law_draw" (defArgs s__law_draw) (defBody s__law_draw) (defScope s__law_draw) .none kV__law_draw dc__law_draw pm__law_draw an__law_draw cd__law_draw ct__law_draw), sl__law_draw⟩)
    (e__law_draw : PySem.W.codeIn K cd__law_draw "_law_draw" = true)
    (k__law_draw : PySem.W.keepIn K (.ref f__law_draw) = true)
    (a__law_pick : PySem.W.nsIn K mainGlobals "_law_pick" = some (some (.ref f__law_pick)))
    (l__law_pick : K.lookup f__law_pick = some ⟨oc__law_pick, od__law_pick, .func (PySem.W.fnOf "_law_pick" "_law_pick" (defArgs s__law_pick) (defBody s__law_pick) (defScope s__law_pick) .none kV__law_pick dc__law_pick pm__law_pick an__law_pick cd__law_pick ct__law_pick), sl__law_pick⟩)
    (e__law_pick : PySem.W.codeIn K cd__law_pick "_law_pick" = true)
    (k__law_pick : PySem.W.keepIn K (.ref f__law_pick) = true)
    (a__law_term : PySem.W.nsIn K mainGlobals "_law_term" = some (some (.ref f__law_term)))
    (l__law_term : K.lookup f__law_term = some ⟨oc__law_term, od__law_term, .func (PySem.W.fnOf "_law_term" "_law_term" (defArgs s__law_term) (defBody s__law_term) (defScope s__law_term) .none kV__law_term dc__law_term pm__law_term an__law_term cd__law_term ct__law_term), sl__law_term⟩)
    (e__law_term : PySem.W.codeIn K cd__law_term "_law_term" = true)
    (k__law_term : PySem.W.keepIn K (.ref f__law_term) = true)
    (a__law_is_open : PySem.W.nsIn K mainGlobals "_law_is_open" = some (some (.ref f__law_is_open)))
    (l__law_is_open : K.lookup f__law_is_open = some ⟨oc__law_is_open, od__law_is_open, .func (PySem.W.fnOf "_law_is_open" "_law_is_open" (defArgs s__law_is_open) (defBody s__law_is_open) (defScope s__law_is_open) .none kV__law_is_open dc__law_is_open pm__law_is_open an__law_is_open cd__law_is_open ct__law_is_open), sl__law_is_open⟩)
    (e__law_is_open : PySem.W.codeIn K cd__law_is_open "_law_is_open" = true)
    (k__law_is_open : PySem.W.keepIn K (.ref f__law_is_open) = true)
    (a__law_fault : PySem.W.nsIn K mainGlobals "_law_fault" = some (some (.ref f__law_fault)))
    (l__law_fault : K.lookup f__law_fault = some ⟨oc__law_fault, od__law_fault, .func (PySem.W.fnOf "_law_fault" "_law_fault" (defArgs s__law_fault) (defBody s__law_fault) (defScope s__law_fault) .none kV__law_fault dc__law_fault pm__law_fault an__law_fault cd__law_fault ct__law_fault), sl__law_fault⟩)
    (e__law_fault : PySem.W.codeIn K cd__law_fault "_law_fault" = true)
    (k__law_fault : PySem.W.keepIn K (.ref f__law_fault) = true)
    (a__law_said : PySem.W.nsIn K mainGlobals "_law_said" = some (some (.ref f__law_said)))
    (l__law_said : K.lookup f__law_said = some ⟨oc__law_said, od__law_said, .func (PySem.W.fnOf "_law_said" "_law_said" (defArgs s__law_said) (defBody s__law_said) (defScope s__law_said) .none kV__law_said dc__law_said pm__law_said an__law_said cd__law_said ct__law_said), sl__law_said⟩)
    (e__law_said : PySem.W.codeIn K cd__law_said "_law_said" = true)
    (k__law_said : PySem.W.keepIn K (.ref f__law_said) = true)
    (a__law_due : PySem.W.nsIn K mainGlobals "_law_due" = some (some (.ref f__law_due)))
    (l__law_due : K.lookup f__law_due = some ⟨oc__law_due, od__law_due, .func (PySem.W.fnOf "_law_due" "_law_due" (defArgs s__law_due) (defBody s__law_due) (defScope s__law_due) .none kV__law_due dc__law_due pm__law_due an__law_due cd__law_due ct__law_due), sl__law_due⟩)
    (e__law_due : PySem.W.codeIn K cd__law_due "_law_due" = true)
    (k__law_due : PySem.W.keepIn K (.ref f__law_due) = true)
    (a__law_right : PySem.W.nsIn K mainGlobals "_law_right" = some (some (.ref f__law_right)))
    (l__law_right : K.lookup f__law_right = some ⟨oc__law_right, od__law_right, .func (PySem.W.fnOf "_law_right" "_law_right" (defArgs s__law_right) (defBody s__law_right) (defScope s__law_right) .none kV__law_right dc__law_right pm__law_right an__law_right cd__law_right ct__law_right), sl__law_right⟩)
    (e__law_right : PySem.W.codeIn K cd__law_right "_law_right" = true)
    (k__law_right : PySem.W.keepIn K (.ref f__law_right) = true)
    (a__law_long_right : PySem.W.nsIn K mainGlobals "_law_long_right" = some (some (.ref f__law_long_right)))
    (l__law_long_right : K.lookup f__law_long_right = some ⟨oc__law_long_right, od__law_long_right, .func (PySem.W.fnOf "_law_long_right" "_law_long_right" (defArgs s__law_long_right) (defBody s__law_long_right) (defScope s__law_long_right) .none kV__law_long_right dc__law_long_right pm__law_long_right an__law_long_right cd__law_long_right ct__law_long_right), sl__law_long_right⟩)
    (e__law_long_right : PySem.W.codeIn K cd__law_long_right "_law_long_right" = true)
    (k__law_long_right : PySem.W.keepIn K (.ref f__law_long_right) = true)
    (a_law : PySem.W.nsIn K mainGlobals "law" = some (some (.ref f_law)))
    (l_law : K.lookup f_law = some ⟨oc_law, od_law, .func (PySem.W.fnOf "law" "law" (defArgs s_law) (defBody s_law) (defScope s_law) .none kV_law dc_law pm_law an_law cd_law ct_law), sl_law⟩)
    (e_law : PySem.W.codeIn K cd_law "law" = true)
    (k_law : PySem.W.keepIn K (.ref f_law) = true)
    (ac_Reader : PySem.W.nsIn K mainGlobals "Reader" = some (some (.ref c_Reader)))
    (pg_Reader : PySem.W.plainGet K c_Reader Str.empty = true)
    (hd_Reader : PySem.W.hasDictIn K c_Reader = true)
    (po_Reader : PySem.W.plainOver K c_Reader = true)
    (sa_Reader : PySem.W.findIn K (.ref c_Reader) "__setattr__" = some (some (.builtin "object.__setattr__")))
    (mk_Reader : PySem.W.makesIn K c_Reader = true)
    (kc_Reader : PySem.W.keepIn K (.ref c_Reader) = true)
    (na_Reader_text : PySem.W.findIn K (.ref c_Reader) "text" = some none)
    (na_Reader_spot : PySem.W.findIn K (.ref c_Reader) "spot" = some none)
    (ac_NoTerm : PySem.W.nsIn K mainGlobals "NoTerm" = some (some (.ref c_NoTerm)))
    (x_NoTerm : K.lookup c_NoTerm = some (excClassObj nm_NoTerm q_NoTerm c_NoTerm N_NoTerm bs_NoTerm bm_NoTerm true sn_NoTerm sub_NoTerm ab_NoTerm col_NoTerm dd_NoTerm m0_NoTerm m1_NoTerm m2_NoTerm m3_NoTerm m5_NoTerm "ValueError.__new__"))
    (rv_NoTerm : PySem.HandSPX.refsVE bm_NoTerm = true)
    (sa_NoTerm : PySem.W.findIn K (.ref c_NoTerm) "__setattr__" = some (some (.builtin "object.__setattr__")))
    (ga_NoTerm : PySem.W.findIn K (.ref c_NoTerm) "__getattribute__" = some (some (.builtin "BaseException.__getattribute__")))
    (gg_NoTerm : PySem.W.findIn K (.ref c_NoTerm) "__getattr__" = some none)
    (ex_NoTerm : PySem.W.subIn K (.ref c_NoTerm) (.type "BaseException") = some true)
    (ty_NoTerm : PySem.W.typeIn K (.ref c_NoTerm) = some (.type "type"))
    (hd_NoTerm : PySem.W.hasDictIn K c_NoTerm = true)
    (kc_NoTerm : PySem.W.keepIn K (.ref c_NoTerm) = true)
    (no_NoTerm_place : PySem.W.findIn K (.ref c_NoTerm) "place" = some none)
    (ac_FoldError : PySem.W.nsIn K mainGlobals "FoldError" = some (some (.ref c_FoldError)))
    (q_NoTerm_NoTerm : PySem.W.subIn K (.ref c_NoTerm) (.ref c_NoTerm) = some true)
    (cx_NoTerm_NoTerm : PySem.W.subIn K (.ref c_NoTerm) (.type "BaseException") = some true ∧ PySem.W.isClsIn K c_NoTerm = true ∧ PySem.W.typeIn K (.ref c_NoTerm) = some (.type "type"))
    (ak_NAMES : PySem.W.nsIn K mainGlobals "NAMES" = some (some u_NAMES))
    (rk_NAMES : RelV (.str "wxyz") u_NAMES)
    (ak_MOST_TEXT : PySem.W.nsIn K mainGlobals "MOST_TEXT" = some (some u_MOST_TEXT))
    (rk_MOST_TEXT : RelV (.int 200) u_MOST_TEXT)
    (z_len : PySem.W.nsIn K mainGlobals "len" = some none)
    (z_int : PySem.W.nsIn K mainGlobals "int" = some none)
    (z_abs : PySem.W.nsIn K mainGlobals "abs" = some none)
    (z_isinstance : PySem.W.nsIn K mainGlobals "isinstance" = some none)
    (z_tuple : PySem.W.nsIn K mainGlobals "tuple" = some none)
    (z_range : PySem.W.nsIn K mainGlobals "range" = some none)
    (z_enumerate : PySem.W.nsIn K mainGlobals "enumerate" = some none)
    (z_str : PySem.W.nsIn K mainGlobals "str" = some none) :
    Txt ⟨K, mg, f_NoTerm_init, PySem.W.fnOf "__init__" "NoTerm.__init__" (defArgs s_NoTerm_init) (defBody s_NoTerm_init) (defScope s_NoTerm_init) .none kV_NoTerm_init dc_NoTerm_init pm_NoTerm_init an_NoTerm_init cd_NoTerm_init ct_NoTerm_init, f_Reader_init, PySem.W.fnOf "__init__" "Reader.__init__" (defArgs s_Reader_init) (defBody s_Reader_init) (defScope s_Reader_init) .none kV_Reader_init dc_Reader_init pm_Reader_init an_Reader_init cd_Reader_init ct_Reader_init, f_Reader_sign, PySem.W.fnOf "sign" "Reader.sign" (defArgs s_Reader_sign) (defBody s_Reader_sign) (defScope s_Reader_sign) .none kV_Reader_sign dc_Reader_sign pm_Reader_sign an_Reader_sign cd_Reader_sign ct_Reader_sign, f_Reader_demand, PySem.W.fnOf "demand" "Reader.demand" (defArgs s_Reader_demand) (defBody s_Reader_demand) (defScope s_Reader_demand) .none kV_Reader_demand dc_Reader_demand pm_Reader_demand an_Reader_demand cd_Reader_demand ct_Reader_demand, f_Reader_is_factor, PySem.W.fnOf "is_factor" "Reader.is_factor" (defArgs s_Reader_is_factor) (defBody s_Reader_is_factor) (defScope s_Reader_is_factor) .none kV_Reader_is_factor dc_Reader_is_factor pm_Reader_is_factor an_Reader_is_factor cd_Reader_is_factor ct_Reader_is_factor, f_Reader_term, PySem.W.fnOf "term" "Reader.term" (defArgs s_Reader_term) (defBody s_Reader_term) (defScope s_Reader_term) .none kV_Reader_term dc_Reader_term pm_Reader_term an_Reader_term cd_Reader_term ct_Reader_term, f_Reader_power, PySem.W.fnOf "power" "Reader.power" (defArgs s_Reader_power) (defBody s_Reader_power) (defScope s_Reader_power) .none kV_Reader_power dc_Reader_power pm_Reader_power an_Reader_power cd_Reader_power ct_Reader_power, f_two_terms, PySem.W.fnOf "two_terms" "two_terms" (defArgs s_two_terms) (defBody s_two_terms) (defScope s_two_terms) .none kV_two_terms dc_two_terms pm_two_terms an_two_terms cd_two_terms ct_two_terms, f_names_in, PySem.W.fnOf "names_in" "names_in" (defArgs s_names_in) (defBody s_names_in) (defScope s_names_in) .none kV_names_in dc_names_in pm_names_in an_names_in cd_names_in ct_names_in, f_read_identity, PySem.W.fnOf "read_identity" "read_identity" (defArgs s_read_identity) (defBody s_read_identity) (defScope s_read_identity) .none kV_read_identity dc_read_identity pm_read_identity an_read_identity cd_read_identity ct_read_identity, f__law_source, PySem.W.fnOf "_law_source" "_law_source" (defArgs s__law_source) (defBody s__law_source) (defScope s__law_source) .none kV__law_source dc__law_source pm__law_source an__law_source cd__law_source ct__law_source, f__law_draw, PySem.W.fnOf "_law_draw" "_law_draw" (defArgs s__law_draw) (defBody s__law_draw) (defScope s__law_draw) .none kV__law_draw dc__law_draw pm__law_draw an__law_draw cd__law_draw ct__law_draw, f__law_pick, PySem.W.fnOf "_law_pick" "_law_pick" (defArgs s__law_pick) (defBody s__law_pick) (defScope s__law_pick) .none kV__law_pick dc__law_pick pm__law_pick an__law_pick cd__law_pick ct__law_pick, f__law_term, PySem.W.fnOf "_law_term" "_law_term" (defArgs s__law_term) (defBody s__law_term) (defScope s__law_term) .none kV__law_term dc__law_term pm__law_term an__law_term cd__law_term ct__law_term, f__law_is_open, PySem.W.fnOf "_law_is_open" "_law_is_open" (defArgs s__law_is_open) (defBody s__law_is_open) (defScope s__law_is_open) .none kV__law_is_open dc__law_is_open pm__law_is_open an__law_is_open cd__law_is_open ct__law_is_open, f__law_fault, PySem.W.fnOf "_law_fault" "_law_fault" (defArgs s__law_fault) (defBody s__law_fault) (defScope s__law_fault) .none kV__law_fault dc__law_fault pm__law_fault an__law_fault cd__law_fault ct__law_fault, f__law_said, PySem.W.fnOf "_law_said" "_law_said" (defArgs s__law_said) (defBody s__law_said) (defScope s__law_said) .none kV__law_said dc__law_said pm__law_said an__law_said cd__law_said ct__law_said, f__law_due, PySem.W.fnOf "_law_due" "_law_due" (defArgs s__law_due) (defBody s__law_due) (defScope s__law_due) .none kV__law_due dc__law_due pm__law_due an__law_due cd__law_due ct__law_due, f__law_right, PySem.W.fnOf "_law_right" "_law_right" (defArgs s__law_right) (defBody s__law_right) (defScope s__law_right) .none kV__law_right dc__law_right pm__law_right an__law_right cd__law_right ct__law_right, f__law_long_right, PySem.W.fnOf "_law_long_right" "_law_long_right" (defArgs s__law_long_right) (defBody s__law_long_right) (defScope s__law_long_right) .none kV__law_long_right dc__law_long_right pm__law_long_right an__law_long_right cd__law_long_right ct__law_long_right, f_law, PySem.W.fnOf "law" "law" (defArgs s_law) (defBody s_law) (defScope s_law) .none kV_law dc_law pm_law an_law cd_law ct_law, c_Reader, c_NoTerm, c_FoldError⟩ :=
  {F_NoTerm_init := fun_mk (st := s_NoTerm_init) l_NoTerm_init e_NoTerm_init k_NoTerm_init,
   b_NoTerm_init := Fun.binds (st := s_NoTerm_init) (ps := ["self", "place"]) (fun_mk (st := s_NoTerm_init) l_NoTerm_init e_NoTerm_init k_NoTerm_init) fun _ _ _ _ _ _ us hl => match us, hl with | [_, _], _ => rfl,
   F_Reader_init := fun_mk (st := s_Reader_init) l_Reader_init e_Reader_init k_Reader_init,
   b_Reader_init := Fun.binds (st := s_Reader_init) (ps := ["self", "text"]) (fun_mk (st := s_Reader_init) l_Reader_init e_Reader_init k_Reader_init) fun _ _ _ _ _ _ us hl => match us, hl with | [_, _], _ => rfl,
   m_Reader_sign := ⟨a_Reader_sign, i_Reader_sign, k_Reader_sign⟩,
   F_Reader_sign := fun_mk (st := s_Reader_sign) l_Reader_sign e_Reader_sign k_Reader_sign,
   b_Reader_sign := Fun.binds (st := s_Reader_sign) (ps := ["self"]) (fun_mk (st := s_Reader_sign) l_Reader_sign e_Reader_sign k_Reader_sign) fun _ _ _ _ _ _ us hl => match us, hl with | [_], _ => rfl,
   m_Reader_demand := ⟨a_Reader_demand, i_Reader_demand, k_Reader_demand⟩,
   F_Reader_demand := fun_mk (st := s_Reader_demand) l_Reader_demand e_Reader_demand k_Reader_demand,
   b_Reader_demand := Fun.binds (st := s_Reader_demand) (ps := ["self", "sign"]) (fun_mk (st := s_Reader_demand) l_Reader_demand e_Reader_demand k_Reader_demand) fun _ _ _ _ _ _ us hl => match us, hl with | [_, _], _ => rfl,
   m_Reader_is_factor := ⟨a_Reader_is_factor, i_Reader_is_factor, k_Reader_is_factor⟩,
   F_Reader_is_factor := fun_mk (st := s_Reader_is_factor) l_Reader_is_factor e_Reader_is_factor k_Reader_is_factor,
   b_Reader_is_factor := Fun.binds (st := s_Reader_is_factor) (ps := ["self"]) (fun_mk (st := s_Reader_is_factor) l_Reader_is_factor e_Reader_is_factor k_Reader_is_factor) fun _ _ _ _ _ _ us hl => match us, hl with | [_], _ => rfl,
   m_Reader_term := ⟨a_Reader_term, i_Reader_term, k_Reader_term⟩,
   F_Reader_term := fun_mk (st := s_Reader_term) l_Reader_term e_Reader_term k_Reader_term,
   b_Reader_term := Fun.binds (st := s_Reader_term) (ps := ["self"]) (fun_mk (st := s_Reader_term) l_Reader_term e_Reader_term k_Reader_term) fun _ _ _ _ _ _ us hl => match us, hl with | [_], _ => rfl,
   m_Reader_power := ⟨a_Reader_power, i_Reader_power, k_Reader_power⟩,
   F_Reader_power := fun_mk (st := s_Reader_power) l_Reader_power e_Reader_power k_Reader_power,
   b_Reader_power := Fun.binds (st := s_Reader_power) (ps := ["self"]) (fun_mk (st := s_Reader_power) l_Reader_power e_Reader_power k_Reader_power) fun _ _ _ _ _ _ us hl => match us, hl with | [_], _ => rfl,
   g_two_terms := PySem.W.mg_of X Ns a_two_terms,
   F_two_terms := fun_mk (st := s_two_terms) l_two_terms e_two_terms k_two_terms,
   b_two_terms := Fun.binds (st := s_two_terms) (ps := ["text"]) (fun_mk (st := s_two_terms) l_two_terms e_two_terms k_two_terms) fun _ _ _ _ _ _ us hl => match us, hl with | [_], _ => rfl,
   g_names_in := PySem.W.mg_of X Ns a_names_in,
   F_names_in := fun_mk (st := s_names_in) l_names_in e_names_in k_names_in,
   b_names_in := Fun.binds (st := s_names_in) (ps := ["first", "second"]) (fun_mk (st := s_names_in) l_names_in e_names_in k_names_in) fun _ _ _ _ _ _ us hl => match us, hl with | [_, _], _ => rfl,
   g_read_identity := PySem.W.mg_of X Ns a_read_identity,
   F_read_identity := fun_mk (st := s_read_identity) l_read_identity e_read_identity k_read_identity,
   b_read_identity := Fun.binds (st := s_read_identity) (ps := ["text"]) (fun_mk (st := s_read_identity) l_read_identity e_read_identity k_read_identity) fun _ _ _ _ _ _ us hl => match us, hl with | [_], _ => rfl,
   g__law_source := PySem.W.mg_of X Ns a__law_source,
   F__law_source := fun_mk (st := s__law_source) l__law_source e__law_source k__law_source,
   b__law_source := Fun.binds (st := s__law_source) (ps := ["_law_cell"]) (fun_mk (st := s__law_source) l__law_source e__law_source k__law_source) fun _ _ _ _ _ _ us hl => match us, hl with | [_], _ => rfl,
   g__law_draw := PySem.W.mg_of X Ns a__law_draw,
   F__law_draw := fun_mk (st := s__law_draw) l__law_draw e__law_draw k__law_draw,
   b__law_draw := Fun.binds (st := s__law_draw) (ps := ["_law_source_here", "_law_many"]) (fun_mk (st := s__law_draw) l__law_draw e__law_draw k__law_draw) fun _ _ _ _ _ _ us hl => match us, hl with | [_, _], _ => rfl,
   g__law_pick := PySem.W.mg_of X Ns a__law_pick,
   F__law_pick := fun_mk (st := s__law_pick) l__law_pick e__law_pick k__law_pick,
   b__law_pick := Fun.binds (st := s__law_pick) (ps := ["_law_source_here", "_law_some"]) (fun_mk (st := s__law_pick) l__law_pick e__law_pick k__law_pick) fun _ _ _ _ _ _ us hl => match us, hl with | [_, _], _ => rfl,
   g__law_term := PySem.W.mg_of X Ns a__law_term,
   F__law_term := fun_mk (st := s__law_term) l__law_term e__law_term k__law_term,
   b__law_term := Fun.binds (st := s__law_term) (ps := ["_law_source_here", "_law_deep"]) (fun_mk (st := s__law_term) l__law_term e__law_term k__law_term) fun _ _ _ _ _ _ us hl => match us, hl with | [_, _], _ => rfl,
   g__law_is_open := PySem.W.mg_of X Ns a__law_is_open,
   F__law_is_open := fun_mk (st := s__law_is_open) l__law_is_open e__law_is_open k__law_is_open,
   b__law_is_open := Fun.binds (st := s__law_is_open) (ps := ["_law_mood", "_law_sign", "_law_depth", "_law_is_second"]) (fun_mk (st := s__law_is_open) l__law_is_open e__law_is_open k__law_is_open) fun _ _ _ _ _ _ us hl => match us, hl with | [_, _, _, _], _ => rfl,
   g__law_fault := PySem.W.mg_of X Ns a__law_fault,
   F__law_fault := fun_mk (st := s__law_fault) l__law_fault e__law_fault k__law_fault,
   b__law_fault := Fun.binds (st := s__law_fault) (ps := ["_law_text"]) (fun_mk (st := s__law_fault) l__law_fault e__law_fault k__law_fault) fun _ _ _ _ _ _ us hl => match us, hl with | [_], _ => rfl,
   g__law_said := PySem.W.mg_of X Ns a__law_said,
   F__law_said := fun_mk (st := s__law_said) l__law_said e__law_said k__law_said,
   b__law_said := Fun.binds (st := s__law_said) (ps := ["_law_text"]) (fun_mk (st := s__law_said) l__law_said e__law_said k__law_said) fun _ _ _ _ _ _ us hl => match us, hl with | [_], _ => rfl,
   g__law_due := PySem.W.mg_of X Ns a__law_due,
   F__law_due := fun_mk (st := s__law_due) l__law_due e__law_due k__law_due,
   b__law_due := Fun.binds (st := s__law_due) (ps := ["_law_text"]) (fun_mk (st := s__law_due) l__law_due e__law_due k__law_due) fun _ _ _ _ _ _ us hl => match us, hl with | [_], _ => rfl,
   g__law_right := PySem.W.mg_of X Ns a__law_right,
   F__law_right := fun_mk (st := s__law_right) l__law_right e__law_right k__law_right,
   b__law_right := Fun.binds (st := s__law_right) (ps := ["_law_source_here"]) (fun_mk (st := s__law_right) l__law_right e__law_right k__law_right) fun _ _ _ _ _ _ us hl => match us, hl with | [_], _ => rfl,
   g__law_long_right := PySem.W.mg_of X Ns a__law_long_right,
   F__law_long_right := fun_mk (st := s__law_long_right) l__law_long_right e__law_long_right k__law_long_right,
   b__law_long_right := Fun.binds (st := s__law_long_right) (ps := []) (fun_mk (st := s__law_long_right) l__law_long_right e__law_long_right k__law_long_right) fun _ _ _ _ _ _ us hl => match us, hl with | [], _ => rfl,
   g_law := PySem.W.mg_of X Ns a_law,
   F_law := fun_mk (st := s_law) l_law e_law k_law,
   b_law := Fun.binds (st := s_law) (ps := ["_law_script"]) (fun_mk (st := s_law) l_law e_law k_law) fun _ _ _ _ _ _ us hl => match us, hl with | [_], _ => rfl,
   cl_Reader := ⟨pg_Reader, hd_Reader, po_Reader, sa_Reader⟩,
   gc_Reader := PySem.W.mg_of X Ns ac_Reader,
   mk_Reader := ⟨mk_Reader, a_Reader_init, i_Reader_init, kc_Reader⟩,
   na_Reader_text := na_Reader_text,
   na_Reader_spot := na_Reader_spot,
   gc_NoTerm := PySem.W.mg_of X Ns ac_NoTerm,
   oe_NoTerm := ⟨⟨_, _, _, _, _, _, _, _, _, _, _, _, _, _, _, x_NoTerm, rv_NoTerm⟩, sa_NoTerm, ex_NoTerm, ty_NoTerm, kc_NoTerm⟩,
   xf_NoTerm := ⟨ga_NoTerm, gg_NoTerm, ex_NoTerm, hd_NoTerm⟩,
   no_NoTerm_place := no_NoTerm_place,
   in_NoTerm := ⟨a_NoTerm_init, t_NoTerm_init⟩,
   gc_FoldError := PySem.W.mg_of X Ns ac_FoldError,
   exm_NoTerm_NoTerm := exm_of cx_NoTerm_NoTerm.1 cx_NoTerm_NoTerm.2.1 cx_NoTerm_NoTerm.2.2 q_NoTerm_NoTerm,
   k_NAMES := ⟨_, PySem.W.mg_of X Ns ak_NAMES, rk_NAMES⟩,
   k_MOST_TEXT := ⟨_, PySem.W.mg_of X Ns ak_MOST_TEXT, rk_MOST_TEXT⟩,
   n_len := PySem.W.mg_none_of X Ns z_len,
   n_int := PySem.W.mg_none_of X Ns z_int,
   n_abs := PySem.W.mg_none_of X Ns z_abs,
   n_isinstance := PySem.W.mg_none_of X Ns z_isinstance,
   n_tuple := PySem.W.mg_none_of X Ns z_tuple,
   n_range := PySem.W.mg_none_of X Ns z_range,
   n_enumerate := PySem.W.mg_none_of X Ns z_enumerate,
   n_str := PySem.W.mg_none_of X Ns z_str}
end K81

set_option Elab.async false
set_option linter.all false
set_option maxRecDepth 100000
set_option maxHeartbeats 4000000
namespace K81
open PySem PySem.Spec PyProof.Rows L2 LX M81
local macro_rules | `(tactic| walk_at "hp") => `(tactic| first | assumption | exact upd_same | (refine up_new (by assumption) ?_; walk_at "hp") | (refine up_ne (by first | assumption | (exact Ne.symm (by assumption))) ?_; walk_at "hp") | (refine up_mut (by assumption) (by intro z; cases z) ?_; walk_at "hp"))
local macro_rules | `(tactic| walk_at "w1") => `(tactic| first
  | (with_reducible refine w_seq ?_) | (with_reducible refine w_asg ?_) | (with_reducible refine w_name ?_) | (with_reducible refine w_ret ?_) | (with_reducible refine w_drop ?_) | (with_reducible refine w_ifS ?_)
  | (with_reducible refine w_var (by with_unfolding_all exact rfl) ?_) | (with_reducible refine w_c ?_) | (with_reducible refine w_op ?_) | (with_reducible refine w_test ?_) | (with_reducible refine w_B ?_)
  | (with_reducible refine w_bl ?_) | (with_reducible refine w_cons ?_) | (with_reducible refine w_nil ?_) | (with_reducible refine w_cb ?_) | (with_reducible refine w_call ?_) | (with_reducible refine w_callS ?_)
  | (with_reducible refine w_addI ?_) | (with_reducible refine w_subI ?_) | (with_reducible refine w_ltI ?_) | (with_reducible refine w_leI ?_) | (with_reducible refine w_gtI ?_) | (with_reducible refine w_geI ?_)
  | (with_reducible refine w_tAnd ?_) | (with_reducible refine w_tOr ?_) | (with_reducible refine w_tNot ?_) | (with_reducible refine w_andV ?_) | (with_reducible refine w_orV ?_) | (with_reducible refine w_notV ?_) | (with_reducible refine w_if ?_)
  | (with_reducible refine w_un ?_) | (with_reducible refine w_neg ?_) | (with_reducible refine w_intI ?_) | (with_reducible refine w_intB ?_) | (with_reducible refine w_abs ?_)
  | (with_reducible refine w_eq (by with_unfolding_all exact rfl) ?_) | (with_reducible refine w_ne (by with_unfolding_all exact rfl) ?_) | (with_reducible refine w_isNone ?_) | (with_reducible refine w_notNone ?_)
  | (with_reducible refine w_tup ?_) | (with_reducible refine w_lst ?_) | (with_reducible refine w_sl ?_) | (with_reducible refine w_noPart ?_) | (with_reducible refine w_part ?_) | (with_reducible refine w_partI ?_)
  | (with_reducible refine w_fld0 ?_) | (with_reducible refine w_rz ?_)
  | (with_reducible refine w_next ?_) | (with_reducible refine w_brk ?_) | (with_reducible refine w_cont ?_) | (with_reducible refine w_retN ?_))
local macro_rules | `(tactic| walk_at "w") => `(tactic| repeat walk_at "w1")
local macro_rules | `(tactic| walk_at "u1") => `(tactic| first | walk_at "w1" | (with_reducible refine w_gsub ?_) | (with_reducible refine w_par ?_) | (with_reducible refine w_par3 ?_) | (with_reducible refine w_pr2 ?_) | (with_reducible refine w_pr3 ?_) | (with_reducible refine w_then ?_) | (with_reducible refine w_for ?_) | (with_reducible refine w_rng1 ?_) | (with_reducible refine w_enumS ?_) | (with_reducible refine w_iList ?_) | (with_reducible refine w_iTup ?_) | (with_reducible refine w_iStr ?_) | (with_reducible refine w_make ?_))
local macro_rules | `(tactic| walk_at "u") => `(tactic| repeat walk_at "u1")
section
variable {P : Program} {w : World} {base : Heap} {G : Gx}
/-! the reader's small methods -/
theorem nts : ¬ ("text" : Str) = "spot" := by decide +kernel
theorem nst : ¬ ("spot" : Str) = "text" := by decide +kernel
def flds (l : List Nat) (n : Nat) : List (Str × V) := [("text", .str (S l)), ("spot", .int n)]
theorem flds_text (l : List Nat) (n : Nat) : (flds l n).lookup ("text" : Str) = some (.str (S l)) := by simp [flds, List.lookup]
theorem flds_spot (l : List Nat) (n : Nat) : (flds l n).lookup ("spot" : Str) = some (.int n) := by
  have e : (("spot" : Str) == "text") = false := by simpa using nst
  simp [flds, List.lookup, e]
theorem flds_no (l : List Nat) (n : Nat) {m : Str} (h1 : ¬ m = "text") (h2 : ¬ m = "spot") : (flds l n).lookup m = none := by
  have e1 : (m == "text") = false := by simpa using h1
  have e2 : (m == "spot") = false := by simpa using h2
  simp [flds, List.lookup, e1, e2]
theorem flds_put (l : List Nat) (n : Nat) (k : Nat) : putF "spot" (.int (k : Int)) (flds l n) = flds l k := by
  show (if ("text" : Str) = "spot" then _ else (("text" : Str), V.str (S l)) :: (if ("spot" : Str) = "spot" then [(("spot" : Str), V.int (k : Int))] else _)) = _
  rw [if_neg nts, if_pos rfl]
  rfl
/-- the reader at a stands behind pre, ahead of r -/
def Rdr (G : Gx) (H : Hp) (a dx : Addr) (pre r : List Nat) : Prop := H a = some (.ins G.c_Reader dx (flds (pre ++ r) pre.length))
/-- all but a is as it was -/
def But (a : Addr) (H H' : Hp) : Prop := ∀ b o, H b = some o → b ≠ a → H' b = some o
theorem But.refl (a : Addr) (H : Hp) : But a H H := fun _ _ h _ => h
theorem But.trans {a : Addr} {H H1 H2 : Hp} (x : But a H H1) (y : But a H1 H2) : But a H H2 := fun b o h n => y b o (x b o h n) n
theorem But.at_ {a : Addr} {H : Hp} {o : HO} : But a H (upd H a o) := fun b u h n => by rw [upd_ne n]; exact h
theorem But.new {a p : Addr} {H H1 : Hp} {o : HO} (x : But a H H1) (n : H1 p = none) : But a H (upd H1 p o) := fun b u h hn => up_new n (x b u h hn)
theorem But.mut {a p : Addr} {H H1 : Hp} {o : HO} (x : But a H H1) (n : H p = none) : But a H (upd H1 p o) := fun b u h hn => by rw [upd_ne (ne_of_none h n)]; exact x b u h hn
theorem cast1 (n : Nat) : ((n : Int) + 1) = ((n + 1 : Nat) : Int) := by omega

theorem fresh_of {a p : Addr} {H H1 : Hp} {o : HO} (x : But a H H1) (ha : H1 a = some o) (n : H1 p = none) : H p = none := by
  cases e : H p with
  | none => rfl
  | some u => rw [x p u e (Ne.symm (ne_of_none ha n))] at n; cases n
/-! NoTerm.__init__ -/
def sp_NoTerm_init (G : Gx) : Sp := spInit1 G.K G.c_NoTerm "place"
def t_NoTerm_init (G : Gx) (W : WX) : TS :=
  tOst G.K "place" (tVar 0) (tVar 1)
theorem ok_NoTerm_init (T : Txt G) : FnOk P w G.K G.mg base (L2.CX P w) 1 G.f_NoTerm_init G.d_NoTerm_init ["self", "place"] (sp_NoTerm_init G) := by
  refine T.F_NoTerm_init.okX sc_NoTerm_init (fun vs H Q E h => by obtain ⟨a, y, rfl, _⟩ := h; rfl) (fun cdv A outer s H vs Q E hr h => ⟨t_NoTerm_init G (fun cls d _ H => E cls d H), ?_, ?_⟩)
  · exact (pss_one (ps_ost (pv 0) (pv 1)))
  · obtain ⟨a, y, rfl, oe, no, ha, k⟩ := h
    exact ⟨y, rfl, .ref a, rfl, a, G.c_NoTerm, rfl, oe, no, .inl ⟨ha, fun dx hd ne => k dx hd ne⟩⟩
theorem Txt.e_NoTerm {X : Cx} (T : Txt G) (F : FnOk X.prog X.w X.K X.mg X.base (L2.CX X.prog X.w) 1 G.f_NoTerm_init G.d_NoTerm_init ["self", "place"] (spInit1 X.K G.c_NoTerm "place")) (hK : X.K = G.K := by rfl) (hm : X.mg = G.mg := by rfl) :
    Exc1 X "NoTerm" G.c_NoTerm "place" G.f_NoTerm_init G.d_NoTerm_init ["self", "place"] :=
  ⟨hK ▸ T.oe_NoTerm, hK ▸ T.no_NoTerm_place, hK ▸ T.in_NoTerm.1, hK ▸ T.in_NoTerm.2, F, hK ▸ T.b_NoTerm_init, hm ▸ T.gc_NoTerm⟩

/-! Reader.__init__ -/
def sp_Reader_init (G : Gx) : Sp := fun vs H Q _ => vs.length = 2 ∧ ∃ (a dx : Addr) (l : List Nat), vs = [.ref a, .str (S l)] ∧ H a = some (.ins G.c_Reader dx []) ∧
  ∀ H', Rdr G H' a dx [] l → But a H H' → Q .non H'
def t_Reader_init (G : Gx) (W : WX) : TS :=
  tAsg (tTup (tCons (tVar 1) (tCons (tC (.int 0)) tNil))) (gTup G.K 2 (gCons (gFld G.K (tVar 0) "text") (gCons (gFld G.K (tVar 0) "spot") gNil)))
theorem pure_Reader_init (T : Txt G) (vs : List V) (H : Hp) (Q : VK) (E : XK) (h : sp_Reader_init G vs H Q E) : t_Reader_init G (fun cls d _ H => E cls d H) { nx := fun _ H' => Q .non H', rt := Q } (start ["self", "text"] vs) H := by
  obtain ⟨_, a, dx, l, rfl, ha, k⟩ := h
  unfold t_Reader_init
  walk_at "w"
  refine ⟨by show 2 ≤ sizeLine; decide, fun p hp => ?_⟩
  refine ⟨p, _, rfl, SqT.of upd_same, rfl, ?_⟩
  refine ⟨_, _, rfl, _, rfl, a, _, dx, [], rfl, up_new hp ha, T.cl_Reader, T.na_Reader_text, by show 0 < 1000; decide, ?_⟩
  refine ⟨_, _, rfl, _, rfl, a, _, dx, _, rfl, upd_same, T.cl_Reader, T.na_Reader_spot, by show 1 < 1000; decide, rfl, ?_⟩
  refine k _ ?_ fun b o hb nb => ?_
  · show upd _ a _ a = some (.ins G.c_Reader dx (flds l 0))
    rw [upd_same]
    congr 2
  · rw [upd_ne nb, upd_ne nb]
    exact up_new hp hb
theorem ok_Reader_init (T : Txt G) : FnOk P w G.K G.mg base (L2.CX P w) 1 G.f_Reader_init G.d_Reader_init ["self", "text"] (sp_Reader_init G) := by
  refine T.F_Reader_init.okX sc_Reader_init (fun _ _ _ _ h => h.1) (fun cdv A outer s H vs Q E hr h => ⟨t_Reader_init G (fun cls d _ H => E cls d H), ?_, pure_Reader_init T vs H Q E h⟩)
  have tk : Takes (cxOf (L2.CX P w) P w G.K G.mg base ["self", "text"] "Reader.__init__" (defScope s_Reader_init) G.f_Reader_init cdv A outer s H E) (fun cls d _ H => E cls d H) := takes_of rfl rfl rfl rfl
  exact (pss_one (ps_asg (pe_tup (pa_cons (pv 1) (pa_cons pe_int pa_nil))) (pg_tup rfl (pgs_cons (pg_fld (pv 0)) (pgs_cons (pg_fld (pv 0)) pgs_nil)))))

/-! sign -/
def sp_Reader_sign (G : Gx) : Sp := fun vs H Q _ => vs.length = 1 ∧ ∃ (a dx : Addr) (pre r : List Nat), vs = [.ref a] ∧ Rdr G H a dx pre r ∧ (pre ++ r).length ≤ 1000 ∧ Q (.str (S (r.take 1))) H
def t_Reader_sign (G : Gx) (W : WX) : TS :=
  tRet (tSl rSlS (tFld G.K (tVar 0) "text") (tPart (tFld G.K (tVar 0) "spot")) (tPart (tOp rAddI (tFld G.K (tVar 0) "spot") (tC (.int 1)))))
theorem pure_Reader_sign (T : Txt G) (vs : List V) (H : Hp) (Q : VK) (E : XK) (h : sp_Reader_sign G vs H Q E) : t_Reader_sign G (fun cls d _ H => E cls d H) { nx := fun _ H' => Q .non H', rt := Q } (start ["self"] vs) H := by
  obtain ⟨_, a, dx, pre, r, rfl, ha, hl, k⟩ := h
  unfold t_Reader_sign
  walk_at "w"
  refine ⟨a, _, dx, _, _, rfl, ha, T.cl_Reader, T.na_Reader_text, flds_text _ _, ?_⟩
  walk_at "w"
  refine ⟨a, _, dx, _, _, rfl, ha, T.cl_Reader, T.na_Reader_spot, flds_spot _ _, ?_⟩
  walk_at "w"
  refine ⟨a, _, dx, _, _, rfl, ha, T.cl_Reader, T.na_Reader_spot, flds_spot _ _, ?_⟩
  walk_at "w"
  refine w_slS (line1000 (by rw [S_len]; omega)) ?_
  rw [cast1, S_cut, HT.sIx_nat, HT.sIx_nat]
  have e : ((pre ++ r).drop (min pre.length (pre ++ r).length)).take (min (pre.length + 1) (pre ++ r).length - min pre.length (pre ++ r).length) = r.take 1 := by
    have e1 : min pre.length (pre ++ r).length = pre.length := by simp
    rw [e1, List.drop_left]
    rcases r with _ | ⟨c, r⟩
    · simp
    · have e2 : min (pre.length + 1) (pre ++ c :: r).length - pre.length = 1 := by simp
      rw [e2]
  rw [e]
  exact k
theorem ok_Reader_sign (T : Txt G) : FnOk P w G.K G.mg base (L2.CX P w) 1 G.f_Reader_sign G.d_Reader_sign ["self"] (sp_Reader_sign G) := by
  refine T.F_Reader_sign.okX sc_Reader_sign (fun _ _ _ _ h => h.1) (fun cdv A outer s H vs Q E hr h => ⟨t_Reader_sign G (fun cls d _ H => E cls d H), ?_, pure_Reader_sign T vs H Q E h⟩)
  have tk : Takes (cxOf (L2.CX P w) P w G.K G.mg base ["self"] "Reader.sign" (defScope s_Reader_sign) G.f_Reader_sign cdv A outer s H E) (fun cls d _ H => E cls d H) := takes_of rfl rfl rfl rfl
  exact (pss_one (ps_ret (pe_slice sl_str (pe_fld (pv 0) rfl) (po_some (pe_fld (pv 0) rfl)) (po_some (pe_op o_addI (pe_fld (pv 0) rfl) pe_int)))))

/-- sign, called and read -/
theorem r_sign {σ : L2.St} {H : Hp} {Q : VK} {a dx : Addr} {pre r : List Nat} (ha : Rdr G H a dx pre r) (hl : (pre ++ r).length ≤ 1000) (h : Q (.str (S (r.take 1))) H) (h0 : σ[0]? = some (some (.ref a)) := by rfl) :
    tMeth G.c_Reader "sign" (sp_Reader_sign G) [] E0 (tVar 0) tNil σ H Q :=
  ⟨_, h0, a, dx, _, rfl, ha, flds_no _ _ (by decide +kernel) (by decide +kernel), rfl, a, dx, pre, r, rfl, ha, hl, h⟩
/-! is_factor -/
def sp_Reader_is_factor (G : Gx) : Sp := fun vs H Q _ => vs.length = 1 ∧ ∃ (a dx : Addr) (pre r : List Nat), vs = [.ref a] ∧ Rdr G H a dx pre r ∧ (pre ++ r).length ≤ 1000 ∧ Q (.bl (headFac r)) H
def t_Reader_is_factor (G : Gx) (W : WX) : TS :=
  tRet (tAndV (tOp rNe (tMeth G.c_Reader "sign" (sp_Reader_sign G) [] E0 (tVar 0) tNil) (tC (.str ""))) (tOp rInG (tMeth G.c_Reader "sign" (sp_Reader_sign G) [] E0 (tVar 0) tNil) (tOp rAddS (tC (.str "wxyz")) (tC (.str "(")))))
theorem e_empty : ("" : Str) = S [] := by decide +kernel
theorem pure_Reader_is_factor (T : Txt G) (vs : List V) (H : Hp) (Q : VK) (E : XK) (h : sp_Reader_is_factor G vs H Q E) : t_Reader_is_factor G (fun cls d _ H => E cls d H) { nx := fun _ H' => Q .non H', rt := Q } (start ["self"] vs) H := by
  obtain ⟨_, a, dx, pre, r, rfl, ha, hl, k⟩ := h
  unfold t_Reader_is_factor
  walk_at "w"
  refine r_sign ha hl ?_
  walk_at "w"
  rw [e_empty, S_dec]
  cases r with
  | nil => exact iteF k
  | cons c r =>
    refine iteT ?_
    walk_at "w"
    refine r_sign ha hl ?_
    walk_at "w"
    refine w_addS (by decide +kernel) ?_
    refine ⟨c, _, rfl, rfl, ?_⟩
    have e : (("wxyz" : Str) ++ ("(" : Str)).cps.toList = [119, 120, 121, 122, 40] := by decide +kernel
    have e2 : decide (c ∈ (("wxyz" : Str) ++ ("(" : Str)).cps.toList) = headFac (c :: r) := by
      rw [e]
      simp only [headFac, isFac, isName]
      by_cases h1 : c = 119
      · subst h1; rfl
      · by_cases h2 : c = 120
        · subst h2; rfl
        · by_cases h3 : c = 121
          · subst h3; rfl
          · by_cases h4 : c = 122
            · subst h4; rfl
            · by_cases h5 : c = 40
              · subst h5; rfl
              · simp [h1, h2, h3, h4, h5]
    rw [e2]
    exact k
theorem ok_Reader_is_factor (T : Txt G) : FnOk P w G.K G.mg base (L2.CX P w) 2 G.f_Reader_is_factor G.d_Reader_is_factor ["self"] (sp_Reader_is_factor G) := by
  refine T.F_Reader_is_factor.okX sc_Reader_is_factor (fun _ _ _ _ h => h.1) (fun cdv A outer s H vs Q E hr h => ⟨t_Reader_is_factor G (fun cls d _ H => E cls d H), ?_, pure_Reader_is_factor T vs H Q E h⟩)
  have tk : Takes (cxOf (L2.CX P w) P w G.K G.mg base ["self"] "Reader.is_factor" (defScope s_Reader_is_factor) G.f_Reader_is_factor cdv A outer s H E) (fun cls d _ H => E cls d H) := takes_of rfl rfl rfl rfl
  exact (pss_one (ps_ret (pe_and (pe_cmpR op_ne (pe_meth0 (pv 0) T.cl_Reader T.m_Reader_sign (ok_Reader_sign T) (hr.mono (by decide)) T.b_Reader_sign .nil passL) pe_str (nomark _)) (pe_one (pe_cmpR o_inG (pe_meth0 (pv 0) T.cl_Reader T.m_Reader_sign (ok_Reader_sign T) (hr.mono (by decide)) T.b_Reader_sign .nil passL) (pe_op o_addS (pe_g T.k_NAMES) pe_str) (by with_unfolding_all rfl))))))

/-- is_factor, called and read -/
theorem r_fac {σ : L2.St} {H : Hp} {Q : VK} {a dx : Addr} {pre r : List Nat} (ha : Rdr G H a dx pre r) (hl : (pre ++ r).length ≤ 1000) (h : Q (.bl (headFac r)) H) (h0 : σ[0]? = some (some (.ref a)) := by rfl) :
    tMeth G.c_Reader "is_factor" (sp_Reader_is_factor G) [] E0 (tVar 0) tNil σ H Q :=
  ⟨_, h0, a, dx, _, rfl, ha, flds_no _ _ (by decide +kernel) (by decide +kernel), rfl, a, dx, pre, r, rfl, ha, hl, h⟩
/-! demand -/
def sp_Reader_demand (G : Gx) : Sp := fun vs H Q E => vs.length = 2 ∧ ∃ (a dx : Addr) (pre r : List Nat) (c : Nat), vs = [.ref a, .str (S [c])] ∧ Rdr G H a dx pre r ∧ (pre ++ r).length ≤ 1000 ∧
  (r.head? ≠ some c → ∀ d, H d = none → E (.ref G.c_NoTerm) (some d) (upd H d (.xd [("place", .int pre.length)]))) ∧
  (∀ r', r = c :: r' → ∀ H', Rdr G H' a dx (pre ++ [c]) r' → But a H H' → Q .non H')
def t_Reader_demand (G : Gx) (W : WX) : TS :=
  tSeq (tIfS (tTest (tOp rNe (tMeth G.c_Reader "sign" (sp_Reader_sign G) [] E0 (tVar 0) tNil) (tVar 1))) (tRz G.K G.c_NoTerm "place" W (tFld G.K (tVar 0) "spot")) tNext)
  (sFld G.K (tVar 0) (tOp rAddI (tFld G.K (tVar 0) "spot") (tC (.int 1))) "spot")
theorem adv {H : Hp} {a dx : Addr} {pre r : List Nat} {c : Nat} (T : Txt G) {D : Ends} {σ : L2.St} (ha : Rdr G H a dx pre (c :: r)) (h : ∀ H', Rdr G H' a dx (pre ++ [c]) r → But a H H' → D.nx σ H') (h0 : σ[0]? = some (some (.ref a)) := by rfl) :
    sFld G.K (tVar 0) (tOp rAddI (tFld G.K (tVar 0) "spot") (tC (.int 1))) "spot" D σ H := by
  refine w_sFld ?_
  walk_at "w"
  refine w_var h0 ?_
  refine ⟨a, _, dx, _, _, rfl, ha, T.cl_Reader, T.na_Reader_spot, flds_spot _ _, ?_⟩
  walk_at "w"
  refine w_var h0 ?_
  refine ⟨a, _, dx, _, rfl, ha, T.cl_Reader, T.na_Reader_spot, by show 2 < 1000; decide, h _ ?_ But.at_⟩
  show upd _ a _ a = _
  rw [upd_same, cast1, flds_put]
  simp [flds]
theorem pure_Reader_demand (T : Txt G) (vs : List V) (H : Hp) (Q : VK) (E : XK) (h : sp_Reader_demand G vs H Q E) : t_Reader_demand G (fun cls d _ H => E cls d H) { nx := fun _ H' => Q .non H', rt := Q } (start ["self", "sign"] vs) H := by
  obtain ⟨_, a, dx, pre, r, c, rfl, ha, hl, kE, kQ⟩ := h
  unfold t_Reader_demand
  walk_at "w"
  refine r_sign ha hl ?_
  walk_at "w"
  rw [S_dec]
  refine w_iteN (fun hn => ?_) (fun hy => ?_)
  · walk_at "w"
    refine ⟨a, _, dx, _, _, rfl, ha, T.cl_Reader, T.na_Reader_spot, flds_spot _ _, ?_⟩
    refine w_mk T.oe_NoTerm T.no_NoTerm_place (kE ?_)
    intro h
    cases r with
    | nil => cases h
    | cons d r =>
      have e : d = c := by simpa using h
      subst e
      exact hn rfl
  · cases r with
    | nil => cases hy
    | cons d r =>
      have e : d = c := by simpa using hy
      subst e
      walk_at "w"
      refine adv T ha ?_
      exact kQ r rfl
theorem ok_Reader_demand (T : Txt G) : FnOk P w G.K G.mg base (L2.CX P w) 4 G.f_Reader_demand G.d_Reader_demand ["self", "sign"] (sp_Reader_demand G) := by
  refine T.F_Reader_demand.okX sc_Reader_demand (fun _ _ _ _ h => h.1) (fun cdv A outer s H vs Q E hr h => ⟨t_Reader_demand G (fun cls d _ H => E cls d H), ?_, pure_Reader_demand T vs H Q E h⟩)
  have tk : Takes (cxOf (L2.CX P w) P w G.K G.mg base ["self", "sign"] "Reader.demand" (defScope s_Reader_demand) G.f_Reader_demand cdv A outer s H E) (fun cls d _ H => E cls d H) := takes_of rfl rfl rfl rfl
  exact (pss_cons (ps_if (pt_cmpR op_ne (pe_meth0 (pv 0) T.cl_Reader T.m_Reader_sign (ok_Reader_sign T) (hr.mono (by decide)) T.b_Reader_sign .nil passL) (pv 1) (nomark _)) (pss_one (ps_rz (T.e_NoTerm (ok_NoTerm_init T)) (hr.mono (by decide)) rfl tk (pe_fld (pv 0) rfl))) pss_nil)
    (pss_one (ps_fld (pv 0) (pe_op o_addI (pe_fld (pv 0) rfl) pe_int) rfl)))

end
end K81

set_option Elab.async false
set_option linter.all false
set_option maxRecDepth 100000
set_option maxHeartbeats 4000000
namespace K81
open PySem PySem.Spec PyProof.Rows L2 LX M81
local macro_rules | `(tactic| walk_at "hp") => `(tactic| first | assumption | exact upd_same | (refine up_new (by assumption) ?_; walk_at "hp") | (refine up_ne (by first | assumption | (exact Ne.symm (by assumption))) ?_; walk_at "hp") | (refine up_mut (by assumption) (by intro z; cases z) ?_; walk_at "hp"))
local macro_rules | `(tactic| walk_at "w1") => `(tactic| first
  | (with_reducible refine w_seq ?_) | (with_reducible refine w_asg ?_) | (with_reducible refine w_name ?_) | (with_reducible refine w_ret ?_) | (with_reducible refine w_drop ?_) | (with_reducible refine w_ifS ?_)
  | (with_reducible refine w_var (by with_unfolding_all exact rfl) ?_) | (with_reducible refine w_c ?_) | (with_reducible refine w_op ?_) | (with_reducible refine w_test ?_) | (with_reducible refine w_B ?_)
  | (with_reducible refine w_bl ?_) | (with_reducible refine w_cons ?_) | (with_reducible refine w_nil ?_) | (with_reducible refine w_cb ?_) | (with_reducible refine w_call ?_) | (with_reducible refine w_callS ?_)
  | (with_reducible refine w_addI ?_) | (with_reducible refine w_subI ?_) | (with_reducible refine w_ltI ?_) | (with_reducible refine w_leI ?_) | (with_reducible refine w_gtI ?_) | (with_reducible refine w_geI ?_)
  | (with_reducible refine w_tAnd ?_) | (with_reducible refine w_tOr ?_) | (with_reducible refine w_tNot ?_) | (with_reducible refine w_andV ?_) | (with_reducible refine w_orV ?_) | (with_reducible refine w_notV ?_) | (with_reducible refine w_if ?_)
  | (with_reducible refine w_un ?_) | (with_reducible refine w_neg ?_) | (with_reducible refine w_intI ?_) | (with_reducible refine w_intB ?_) | (with_reducible refine w_abs ?_)
  | (with_reducible refine w_eq (by with_unfolding_all exact rfl) ?_) | (with_reducible refine w_ne (by with_unfolding_all exact rfl) ?_) | (with_reducible refine w_isNone ?_) | (with_reducible refine w_notNone ?_)
  | (with_reducible refine w_tup ?_) | (with_reducible refine w_lst ?_) | (with_reducible refine w_sl ?_) | (with_reducible refine w_noPart ?_) | (with_reducible refine w_part ?_) | (with_reducible refine w_partI ?_)
  | (with_reducible refine w_fld0 ?_) | (with_reducible refine w_rz ?_)
  | (with_reducible refine w_next ?_) | (with_reducible refine w_brk ?_) | (with_reducible refine w_cont ?_) | (with_reducible refine w_retN ?_))
local macro_rules | `(tactic| walk_at "w") => `(tactic| repeat walk_at "w1")
local macro_rules | `(tactic| walk_at "u1") => `(tactic| first | walk_at "w1" | (with_reducible refine w_gsub ?_) | (with_reducible refine w_par ?_) | (with_reducible refine w_par3 ?_) | (with_reducible refine w_pr2 ?_) | (with_reducible refine w_pr3 ?_) | (with_reducible refine w_then ?_) | (with_reducible refine w_for ?_) | (with_reducible refine w_rng1 ?_) | (with_reducible refine w_enumS ?_) | (with_reducible refine w_iList ?_) | (with_reducible refine w_iTup ?_) | (with_reducible refine w_iStr ?_) | (with_reducible refine w_make ?_))
local macro_rules | `(tactic| walk_at "u") => `(tactic| repeat walk_at "u1")
section
variable {P : Program} {w : World} {base : Heap} {G : Gx}
/-! term and power -/
def stepV : M81.Step → V
  | .name c => .str (S [c])
  | .one => .str "one"
  | .times => .str "times"
  | .omega => .str "omega"
  | .less => .str "less"
def Good (G : Gx) (H : Hp) (a dx : Addr) (l : List Nat) (Q : VK) (ss : List M81.Step) (q : List Nat) : Prop :=
  ∀ p H' pre', H' p = some (.lst (ss.map stepV)) → H p = none → Rdr G H' a dx pre' q → pre' ++ q = l → But a H H' → Q (.ref p) H'
def Bad (G : Gx) (H : Hp) (a : Addr) (l : List Nat) (E : XK) (q : List Nat) : Prop :=
  ∀ e H', H' e = some (.xd [("place", .int ((l.length - q.length : Nat) : Int))]) → But a H H' → E (.ref G.c_NoTerm) (some e) H'
def Wish (G : Gx) (H : Hp) (a dx : Addr) (l : List Nat) (Q : VK) (E : XK) (o : Out) : Prop := (∀ ss q, o = .good ss q → Good G H a dx l Q ss q) ∧ ∀ q, o = .bad q → Bad G H a l E q
def sp_Reader_term (G : Gx) (d : Nat) : Sp := fun vs H Q E => vs.length = 1 ∧ ∃ (a dx : Addr) (pre r : List Nat) (o : Out), vs = [.ref a] ∧ Rdr G H a dx pre r ∧ (pre ++ r).length ≤ 201 ∧ 2 * r.length + 2 ≤ d ∧ TermR r o ∧ Wish G H a dx (pre ++ r) Q E o
def sp_Reader_power (G : Gx) (d : Nat) : Sp := fun vs H Q E => vs.length = 1 ∧ ∃ (a dx : Addr) (pre r : List Nat) (o : Out), vs = [.ref a] ∧ Rdr G H a dx pre r ∧ (pre ++ r).length ≤ 201 ∧ 2 * r.length + 1 ≤ d ∧ PowerR r o ∧ Wish G H a dx (pre ++ r) Q E o
def t_Reader_term (G : Gx) (d : Nat) (W : WX) : TS :=
  tSeq (tIfS (tTest (tOp rEq (tMeth G.c_Reader "sign" (sp_Reader_sign G) [] E0 (tVar 0) tNil) (tC (.str "1")))) (tSeq (sFld G.K (tVar 0) (tOp rAddI (tFld G.K (tVar 0) "spot") (tC (.int 1))) "spot")
  (tRet (tLst (tCons (tC (.str "one")) tNil)))) tNext)
  (tSeq (tIfS (tNot (tB (tMeth G.c_Reader "is_factor" (sp_Reader_is_factor G) [] E0 (tVar 0) tNil))) (tRz G.K G.c_NoTerm "place" W (tFld G.K (tVar 0) "spot")) tNext)
  (tSeq (tAsg (tMethG G.c_Reader "power" (sp_Reader_power G d) (WE W) (tVar 0) tNil) (gName 1))
  (tSeq (tWhile (tB (tMeth G.c_Reader "is_factor" (sp_Reader_is_factor G) [] E0 (tVar 0) tNil)) (tAsg (tOp (rCatS G.K) (tOp (rCatS G.K) (tVar 1) (tMethG G.c_Reader "power" (sp_Reader_power G d) (WE W) (tVar 0) tNil)) (tLst (tCons (tC (.str "times")) tNil))) (gName 1)))
  (tRet (tVar 1)))))
def t_Reader_power (G : Gx) (d : Nat) (W : WX) : TS :=
  tSeq (tIfS (tTest (tOp rEq (tMeth G.c_Reader "sign" (sp_Reader_sign G) [] E0 (tVar 0) tNil) (tC (.str "(")))) (tSeq (sFld G.K (tVar 0) (tOp rAddI (tFld G.K (tVar 0) "spot") (tC (.int 1))) "spot")
  (tSeq (tAsg (tMethG G.c_Reader "term" (sp_Reader_term G d) (WE W) (tVar 0) tNil) (gName 1))
  (tDrop (tMethG G.c_Reader "demand" (sp_Reader_demand G) (WE W) (tVar 0) (tCons (tC (.str ")")) tNil))))) (tSeq (tAsg (tLst (tCons (tMeth G.c_Reader "sign" (sp_Reader_sign G) [] E0 (tVar 0) tNil) tNil)) (gName 1))
  (sFld G.K (tVar 0) (tOp rAddI (tFld G.K (tVar 0) "spot") (tC (.int 1))) "spot")))
  (tSeq (tWhile (tAnd (tTest (tOp rNe (tMeth G.c_Reader "sign" (sp_Reader_sign G) [] E0 (tVar 0) tNil) (tC (.str "")))) (tTest (tOp rInG (tMeth G.c_Reader "sign" (sp_Reader_sign G) [] E0 (tVar 0) tNil) (tC (.str "^~"))))) (tSeq (tDrop (tBM G.K "list" rAppend (tVar 1) (tCons (tIf (tTest (tOp rEq (tMeth G.c_Reader "sign" (sp_Reader_sign G) [] E0 (tVar 0) tNil) (tC (.str "^")))) (tC (.str "omega")) (tC (.str "less"))) tNil)))
  (sFld G.K (tVar 0) (tOp rAddI (tFld G.K (tVar 0) "spot") (tC (.int 1))) "spot")))
  (tRet (tVar 1)))
theorem place_of {pre r l : List Nat} (h : pre ++ r = l) : ((pre.length : Nat) : Int) = ((l.length - r.length : Nat) : Int) := by
  rw [← h, List.length_append]
  omega
theorem lst_ne {H : Hp} {a p : Addr} {xs : List V} {C dx : Addr} {fs : List (Str × V)} (ha : H a = some (.ins C dx fs)) (hp : H p = some (.lst xs)) : p ≠ a := ne_of hp ha (by intro z; cases z)
theorem e_one : ("1" : Str) = S [49] := by decide +kernel
theorem e_open : ("(" : Str) = S [40] := by decide +kernel
theorem e_close : (")" : Str) = S [41] := by decide +kernel
theorem e_omega : ("^" : Str) = S [94] := by decide +kernel
theorem take1 (c : Nat) (r : List Nat) : (c :: r).take 1 = [c] := rfl
theorem r_place (T : Txt G) {σ : L2.St} {H : Hp} {W : WX} {D : Ends} {a dx : Addr} {pre r : List Nat} (ha : Rdr G H a dx pre r) (h : ∀ d, H d = none → W (.ref G.c_NoTerm) (some d) σ (upd H d (.xd [("place", .int pre.length)]))) (h0 : σ[0]? = some (some (.ref a)) := by rfl) :
    tRz G.K G.c_NoTerm "place" W (tFld G.K (tVar 0) "spot") D σ H :=
  ⟨_, h0, a, _, dx, _, _, rfl, ha, T.cl_Reader, T.na_Reader_spot, flds_spot _ _, w_mk T.oe_NoTerm T.no_NoTerm_place h⟩
theorem r_power {d : Nat} {σ : L2.St} {H : Hp} {Q : VK} {W : WX} {a dx : Addr} {pre r : List Nat} {o : Out} (ha : Rdr G H a dx pre r) (hl : (pre ++ r).length ≤ 201) (hd : 2 * r.length + 1 ≤ d) (hp : PowerR r o)
    (kG : ∀ ss q, o = .good ss q → Good G H a dx (pre ++ r) Q ss q) (kB : ∀ q, o = .bad q → Bad G H a (pre ++ r) (WE W σ) q) (h0 : σ[0]? = some (some (.ref a)) := by rfl) : tMethG G.c_Reader "power" (sp_Reader_power G d) (WE W) (tVar 0) tNil σ H Q :=
  ⟨_, h0, a, dx, _, rfl, ha, flds_no _ _ (by decide +kernel) (by decide +kernel), rfl, a, dx, pre, r, o, rfl, ha, hl, hd, hp, kG, kB⟩
theorem r_term {d : Nat} {σ : L2.St} {H : Hp} {Q : VK} {W : WX} {a dx : Addr} {i : Nat} {pre r : List Nat} {o : Out} (ha : Rdr G H a dx pre r) (hl : (pre ++ r).length ≤ 201) (hd : 2 * r.length + 2 ≤ d) (hp : TermR r o)
    (kG : ∀ ss q, o = .good ss q → Good G H a dx (pre ++ r) Q ss q) (kB : ∀ q, o = .bad q → Bad G H a (pre ++ r) (WE W σ) q) (h0 : σ[i]? = some (some (.ref a)) := by rfl) : tMethG G.c_Reader "term" (sp_Reader_term G d) (WE W) (tVar i) tNil σ H Q :=
  ⟨_, h0, a, dx, _, rfl, ha, flds_no _ _ (by decide +kernel) (by decide +kernel), rfl, a, dx, pre, r, o, rfl, ha, hl, hd, hp, kG, kB⟩
theorem r_demand {σ : L2.St} {H : Hp} {Q : VK} {W : WX} {a dx : Addr} {i : Nat} {pre r : List Nat} {x : Str} (c : Nat) (ha : Rdr G H a dx pre r) (hl : (pre ++ r).length ≤ 201) (hx : x = S [c])
    (kE : r.head? ≠ some c → ∀ d, H d = none → W (.ref G.c_NoTerm) (some d) σ (upd H d (.xd [("place", .int pre.length)]))) (kQ : ∀ r', r = c :: r' → ∀ H', Rdr G H' a dx (pre ++ [c]) r' → But a H H' → Q .non H') (h0 : σ[i]? = some (some (.ref a)) := by rfl) :
    tMethG G.c_Reader "demand" (sp_Reader_demand G) (WE W) (tVar i) (tCons (tC (.str x)) tNil) σ H Q := by
  subst hx
  exact ⟨_, h0, a, dx, _, rfl, ha, flds_no _ _ (by decide +kernel) (by decide +kernel), rfl, a, dx, pre, r, c, rfl, ha, by omega, kE, kQ⟩
theorem catS {K : PySem.W.Frag} {H : Hp} {Q : VK} {l b : Addr} {xs zs : List V} (h1 : H l = some (.lst xs)) (h2 : H b = some (.lst zs)) (hl : xs.length + zs.length ≤ 1000) (h : ∀ p, H p = none → Q (.ref p) (upd H p (.lst (xs ++ zs)))) : rCatS K (.ref l) (.ref b) H Q :=
  ⟨l, b, xs, zs, rfl, rfl, SqL.of h1, SqL.of h2, line1000 (by omega), h⟩
theorem pure_Reader_term (T : Txt G) (d : Nat) (vs : List V) (H : Hp) (Q : VK) (E : XK) (h : sp_Reader_term G (d + 1) vs H Q E) : t_Reader_term G d (fun cls d _ H => E cls d H) { nx := fun _ H' => Q .non H', rt := Q } (start ["self", "found"] vs) H := by
  obtain ⟨_, a, dx, pre, r, o, rfl, ha, hl, hd, ht, kG, kB⟩ := h
  unfold t_Reader_term
  walk_at "w"
  refine r_sign ha (by omega) ?_
  walk_at "w"
  rw [e_one, S_dec]
  refine w_ite (fun h1 => ?_) (fun h1 => ?_)
  · -- "1"
    cases r with
    | nil => cases h1
    | cons c r =>
      have e : c = 49 := by simpa using h1
      subst e
      cases ht with
      | no h1 h2 => exact absurd rfl h1
      | bad h p => cases h
      | good h p m => cases h
      | one =>
        walk_at "w"
        refine adv T ha fun H' ha' b' => ?_
        walk_at "w"
        refine ⟨by show 1 ≤ sizeLine; decide, fun p hp => kG _ _ rfl p _ _ upd_same ?_ (show Rdr G (upd H' p _) a dx _ r from up_new hp ha') (by simp) (b'.new hp)⟩
        exact fresh_of b' ha' hp
  · walk_at "w"
    refine r_fac ha (by omega) ?_
    walk_at "w"
    refine w_iteB (fun hf => ?_) (fun hf => ?_)
    · have hf : headFac r = false := by simpa using hf
      refine r_place T ha fun e he => ?_
      have bad : o = .bad r := by
        cases ht with
        | nil => rfl
        | one => exact absurd rfl h1
        | no h1 h2 => rfl
        | bad h p => rw [show headFac (_ :: _) = isFac _ from rfl, h] at hf; cases hf
        | good h p m => rw [show headFac (_ :: _) = isFac _ from rfl, h] at hf; cases hf
      refine kB r bad e _ ?_ ((But.refl a H).new he)
      rw [upd_same, place_of (rfl : pre ++ r = pre ++ r)]
    · have hf : headFac r = true := by simpa using hf
      walk_at "w"
      -- found = self.power()
      obtain ⟨op, hp, rest⟩ : ∃ op, PowerR r op ∧ ((∃ q, op = .bad q ∧ o = .bad q) ∨ ∃ ss q, op = .good ss q ∧ MoreR ss q o) := by
        cases ht with
        | nil => cases hf
        | one => exact absurd rfl h1
        | no h1 h2 => rw [show headFac (_ :: _) = isFac _ from rfl, h2] at hf; cases hf
        | bad h p => exact ⟨_, p, .inl ⟨_, rfl, rfl⟩⟩
        | good h p m => exact ⟨_, p, .inr ⟨_, _, rfl, m⟩⟩
      refine r_power ha hl (by omega) hp (fun ss q eo => ?_) (fun q eo => ?_)
      rotate_left
      · rcases rest with ⟨q', e1, e2⟩ | ⟨ss, q', e1, e2⟩
        · rw [eo] at e1
          cases e1
          exact kB q e2
        · rw [eo] at e1; cases e1
      · intro p H1 pre1 h1p hpn ha1 e1 b1
        rcases rest with ⟨q', e2, e3⟩ | ⟨ss', q', e2, m⟩
        · rw [eo] at e2; cases e2
        · rw [eo] at e2
          cases e2
          have sz := power_size (eo ▸ hp)
          have ln := power_len (eo ▸ hp)
          walk_at "w"
          refine ⟨fun k σ' H' => ∃ p ss r' pre', σ' = [some (.ref a), some (.ref p)] ∧ H' p = some (.lst (ss.map stepV)) ∧ H p = none ∧ Rdr G H' a dx pre' r' ∧ pre' ++ r' = pre ++ r ∧ But a H H' ∧ MoreR ss r' o ∧ k = r'.length ∧ r'.length ≤ r.length ∧ ss.length + 2 * r'.length ≤ 2 * r.length, ⟨q.length, p, ss, q, pre1, rfl, h1p, hpn, ha1, e1, b1, m, rfl, Nat.le_of_lt ln, by omega⟩, ?_⟩
          rintro k σ' H' ⟨p, ss, r', pre', rfl, hp', hpn, ha', e', b', m', rfl, hrl, hz⟩
          have hl' : (pre' ++ r').length ≤ 201 := by rw [e']; exact hl
          have hlr : r.length ≤ 201 := by rw [List.length_append] at hl; omega
          walk_at "w"
          refine r_fac ha' (by omega) ?_
          walk_at "w"
          refine w_iteB (fun hf => ?_) (fun hf => ?_)
          · refine ⟨fun σ' H' => ∃ m', m' < r'.length ∧ _, fun _ _ h => h, ?_⟩
            walk_at "w"
            obtain ⟨op, hpw, rest⟩ : ∃ op, PowerR r' op ∧ ((∃ q, op = .bad q ∧ o = .bad q) ∨ ∃ ts q, op = .good ts q ∧ MoreR (ss ++ ts ++ [.times]) q o) := by
              cases m' with
              | stop h => rw [h] at hf; cases hf
              | bad h p => exact ⟨_, p, .inl ⟨_, rfl, rfl⟩⟩
              | good h p m => exact ⟨_, p, .inr ⟨_, _, rfl, m⟩⟩
            refine r_power ha' hl' (by omega) hpw (fun ts q eo => ?_) (fun q eo => ?_)
            rotate_left
            · rcases rest with ⟨q', e1, e2⟩ | ⟨ss, q', e1, e2⟩
              · rw [eo] at e1
                cases e1
                intro e H2 he b2
                exact kB q e2 e H2 (by rw [← e']; exact he) (b'.trans b2)
              · rw [eo] at e1; cases e1
            · intro p2 H2 pre2 h2 hn2 ha2 e2 b2
              rcases rest with ⟨q', e3, e4⟩ | ⟨ts', q', e3, m2⟩
              · rw [eo] at e3; cases e3
              · rw [eo] at e3
                cases e3
                have sz2 := power_size (eo ▸ hpw)
                have ln2 := power_len (eo ▸ hpw)
                have hp2 : H2 p = some (.lst (ss.map stepV)) := b2 p _ hp' (lst_ne ha' hp')
                refine catS hp2 h2 (by simp; omega) fun p3 n3 => ?_
                walk_at "w"
                refine ⟨by show 1 ≤ sizeLine; decide, fun p4 n4 => ?_⟩
                refine catS (up_new n4 upd_same) upd_same (by simp; omega) fun p5 n5 => ?_
                walk_at "w"
                have f5 : H p5 = none := by
                  refine fresh_of (a := a) (o := .ins G.c_Reader dx (flds (pre2 ++ q) pre2.length)) ?_ ?_ n5
                  rotate_left
                  · exact up_new n4 (up_new n3 ha2)
                  · exact ((b'.trans b2).new n3).new n4
                refine ⟨q.length, ln2, p5, ss ++ ts ++ [.times], q, pre2, rfl, ?_, f5, up_new n5 (up_new n4 (up_new n3 ha2)), e2.trans e', (((b'.trans b2).new n3).new n4).new n5, m2, rfl, by omega, by simp; omega⟩
                rw [upd_same]
                simp [stepV]
          · walk_at "w"
            cases m' with
            | bad h p => rw [hf] at h; cases h
            | good h p m => rw [hf] at h; cases h
            | stop h => exact kG _ _ rfl p H' pre' hp' hpn ha' e' b'

/-- the signs behind a factor: the loop of power -/
theorem e_pows : ("^~" : Str).cps.toList = [94, 126] := by decide +kernel
theorem pow_in (c : Nat) : decide (c ∈ ("^~" : Str).cps.toList) = isPow c := by
  rw [e_pows]
  by_cases h1 : c = 94
  · subst h1; rfl
  · by_cases h2 : c = 126
    · subst h2; rfl
    · simp [isPow, h1, h2]
theorem power_loop (T : Txt G) {H H0 : Hp} {D : Ends} {a dx p : Addr} {pre r : List Nat} {ss : List M81.Step} (ha : Rdr G H a dx pre r) (hp : H p = some (.lst (ss.map stepV))) (hpn : H0 p = none) (b : But a H0 H) (hl : (pre ++ r).length ≤ 201) (hs : ss.length ≤ 1000)
    (k : ∀ H' pre', H' p = some (.lst ((ss ++ (powers r).1).map stepV)) → Rdr G H' a dx pre' (powers r).2 → pre' ++ (powers r).2 = pre ++ r → But a H0 H' → D.nx [some (.ref a), some (.ref p)] H') :
    tWhile (tAnd (tTest (tOp rNe (tMeth G.c_Reader "sign" (sp_Reader_sign G) [] E0 (tVar 0) tNil) (tC (.str "")))) (tTest (tOp rInG (tMeth G.c_Reader "sign" (sp_Reader_sign G) [] E0 (tVar 0) tNil) (tC (.str "^~"))))) (tSeq (tDrop (tBM G.K "list" rAppend (tVar 1) (tCons (tIf (tTest (tOp rEq (tMeth G.c_Reader "sign" (sp_Reader_sign G) [] E0 (tVar 0) tNil) (tC (.str "^")))) (tC (.str "omega")) (tC (.str "less"))) tNil)))
      (sFld G.K (tVar 0) (tOp rAddI (tFld G.K (tVar 0) "spot") (tC (.int 1))) "spot")) D [some (.ref a), some (.ref p)] H := by
  have hr : r.length ≤ 201 := by rw [List.length_append] at hl; omega
  refine ⟨fun m σ' H' => ∃ ss' r' pre', σ' = [some (.ref a), some (.ref p)] ∧ H' p = some (.lst (ss'.map stepV)) ∧ Rdr G H' a dx pre' r' ∧ pre' ++ r' = pre ++ r ∧ But a H0 H' ∧ ss' ++ (powers r').1 = ss ++ (powers r).1 ∧ (powers r').2 = (powers r).2 ∧ m = r'.length ∧ ss'.length + r'.length = ss.length + r.length,
    ⟨r.length, ss, r, pre, rfl, hp, ha, rfl, b, rfl, rfl, rfl, rfl⟩, ?_⟩
  rintro m σ' H' ⟨ss', r', pre', rfl, hp', ha', e', b', s1, s2, rfl, hz⟩
  have hl' : (pre' ++ r').length ≤ 201 := by rw [e']; exact hl
  have fin : (powers r') = ([], r') → D.nx [some (.ref a), some (.ref p)] H' := fun e => by
    rw [e] at s1 s2
    refine k H' pre' ?_ ?_ ?_ b'
    · rw [← s1, hp']; simp
    · rw [← s2]; exact ha'
    · rw [← s2]; exact e'
  walk_at "w"
  refine r_sign ha' (by omega) ?_
  walk_at "w"
  rw [e_empty, S_dec]
  cases r' with
  | nil => exact iteF (iteF (fin rfl))
  | cons c r' =>
    refine iteT ?_
    walk_at "w"
    refine r_sign ha' (by omega) ?_
    walk_at "w"
    refine ⟨c, _, rfl, rfl, ?_⟩
    walk_at "w"
    rw [pow_in]
    refine w_iteB (fun h => ?_) (fun h => fin (powers_no h))
    refine ⟨fun σ' H' => ∃ m', m' < (c :: r').length ∧ _, fun _ _ h => h, ?_⟩
    walk_at "w"
    refine ⟨_, rfl, .inl ⟨rfl, _, SqL.of hp'⟩, ?_⟩
    walk_at "w"
    refine r_sign ha' (by omega) ?_
    walk_at "w"
    rw [e_omega, S_dec]
    rw [powers_yes h] at s1 s2
    have go : ∀ x, stepV x = (if c = 94 then V.str "omega" else V.str "less") → (x = if c = 94 then .omega else .less) → rAppend (.ref p) [stepV x] H' fun _ H1 => sFld G.K (tVar 0) (tOp rAddI (tFld G.K (tVar 0) "spot") (tC (.int 1))) "spot" { nx := fun σ' H' => ∃ m', m' < (c :: r').length ∧ ∃ ss' r' pre', σ' = [some (.ref a), some (.ref p)] ∧ H' p = some (.lst (ss'.map stepV)) ∧ Rdr G H' a dx pre' r' ∧ pre' ++ r' = pre ++ r ∧ But a H0 H' ∧ ss' ++ (powers r').1 = ss ++ (powers r).1 ∧ (powers r').2 = (powers r).2 ∧ m' = r'.length ∧ ss'.length + r'.length = ss.length + r.length, rt := D.rt, bk := D.nx, ct := fun σ' H' => ∃ m', m' < (c :: r').length ∧ ∃ ss' r' pre', σ' = [some (.ref a), some (.ref p)] ∧ H' p = some (.lst (ss'.map stepV)) ∧ Rdr G H' a dx pre' r' ∧ pre' ++ r' = pre ++ r ∧ But a H0 H' ∧ ss' ++ (powers r').1 = ss ++ (powers r).1 ∧ (powers r').2 = (powers r).2 ∧ m' = r'.length ∧ ss'.length + r'.length = ss.length + r.length } [some (.ref a), some (.ref p)] H1 := by
      intro x _ ex
      refine ⟨p, _, stepV x, rfl, rfl, hp', (by rw [sizeLine_eq, List.length_map]; omega), ?_⟩
      have pa : p ≠ a := lst_ne ha' hp'
      refine adv T (show Rdr G (upd H' p _) a dx pre' (c :: r') from up_ne (Ne.symm pa) ha') fun H2 ha2 b2 => ?_
      refine ⟨r'.length, by simp, ss' ++ [x], r', pre' ++ [c], rfl, ?_, ha2, by rw [← e']; simp, (b'.mut hpn).trans b2, ?_, s2, rfl, by simp at hz ⊢; omega⟩
      · rw [b2 p _ upd_same pa]
        simp
      · rw [← s1, ex]
        simp
    refine w_ite (fun h1 => ?_) (fun h1 => ?_)
    · have e : c = 94 := by simpa using h1
      subst e
      exact go .omega rfl rfl
    · have e : c ≠ 94 := by simpa using h1
      refine go .less ?_ ?_
      · rw [if_neg e]; rfl
      · rw [if_neg e]
theorem pure_Reader_power (T : Txt G) (d : Nat) (vs : List V) (H : Hp) (Q : VK) (E : XK) (h : sp_Reader_power G (d + 1) vs H Q E) : t_Reader_power G d (fun cls d _ H => E cls d H) { nx := fun _ H' => Q .non H', rt := Q } (start ["self", "found"] vs) H := by
  obtain ⟨_, a, dx, pre, r, o, rfl, ha, hl, hd, ht, kG, kB⟩ := h
  have hr : r.length ≤ 201 := by rw [List.length_append] at hl; omega
  unfold t_Reader_power
  walk_at "w"
  refine r_sign ha (by omega) ?_
  walk_at "w"
  rw [e_open, S_dec]
  refine w_ite (fun h1 => ?_) (fun h1 => ?_)
  · cases r with
    | nil => cases h1
    | cons c r =>
      have e : c = 40 := by simpa using h1
      subst e
      walk_at "w"
      refine adv T ha fun H1 ha1 b1 => ?_
      walk_at "w"
      obtain ⟨ot, ht', rest⟩ : ∃ ot, TermR r ot ∧ ((∃ q, ot = .bad q ∧ o = .bad q) ∨ ∃ ss q, ot = .good ss q ∧ ((q.head? ≠ some 41 ∧ o = .bad q) ∨ ∃ q', q = 41 :: q' ∧ o = .good (ss ++ (powers q').1) (powers q').2)) := by
        cases ht with
        | openBad t => exact ⟨_, t, .inl ⟨_, rfl, rfl⟩⟩
        | openNo t h => exact ⟨_, t, .inr ⟨_, _, rfl, .inl ⟨h, rfl⟩⟩⟩
        | openOk t => exact ⟨_, t, .inr ⟨_, _, rfl, .inr ⟨_, rfl, rfl⟩⟩⟩
        | name h => cases h
      have el : (pre ++ [40]) ++ r = pre ++ 40 :: r := by simp
      have rl : r.length + 1 ≤ 201 := hr
      refine r_term (i := 0) ha1 (by rw [el]; exact hl) (by simp at hd; omega) ht' (fun ss q eo => ?_) (fun q eo => ?_)
      rotate_left
      · rcases rest with ⟨q', e1, e2⟩ | ⟨ss, q', e1, _⟩
        · rw [eo] at e1
          cases e1
          intro e H2 he b2
          exact kB q e2 e H2 (by rw [← el]; exact he) (b1.trans b2)
        · rw [eo] at e1; cases e1
      · intro p H2 pre2 h2 n2 ha2 e2 b2
        rcases rest with ⟨q', e1, _⟩ | ⟨ss', q', e1, e3⟩
        · rw [eo] at e1; cases e1
        · rw [eo] at e1
          cases e1
          walk_at "w"
          have sz := term_size (eo ▸ ht')
          have pn : H p = none := fresh_of b1 ha1 n2
          have pa : p ≠ a := lst_ne ha2 h2
          have hl2 : (pre2 ++ q).length ≤ 201 := by rw [e2, el]; exact hl
          refine r_demand (i := 0) 41 ha2 hl2 e_close (fun hn d0 hd0 => ?_) (fun q' eq H3 ha3 b3 => ?_)
          · rcases e3 with ⟨_, eo2⟩ | ⟨q', eq, _⟩
            · refine kB q eo2 d0 _ ?_ ((b1.trans b2).new hd0)
              rw [upd_same, place_of (e2.trans el)]
            · subst eq; exact absurd rfl hn
          · subst eq
            rcases e3 with ⟨hn, _⟩ | ⟨q'', eq, eo2⟩
            · exact absurd rfl hn
            · cases eq
              walk_at "w"
              have e5 : (pre2 ++ [41]) ++ q' = pre ++ 40 :: r := by rw [← el, ← e2]; simp
              refine power_loop T ha3 (b3 p _ h2 pa) pn ((b1.trans b2).trans b3) (by rw [e5]; exact hl) (by omega) fun H4 pre4 hp4 ha4 e4 b4 => ?_
              walk_at "w"
              exact kG _ _ eo2 p H4 pre4 hp4 pn ha4 (e4.trans e5) b4
  · cases ht with
    | openBad t => exact absurd rfl h1
    | openNo t h => exact absurd rfl h1
    | openOk t => exact absurd rfl h1
    | @name c r h =>
      walk_at "w"
      refine r_sign ha (by omega) ?_
      walk_at "w"
      refine ⟨by show 1 ≤ sizeLine; decide, fun p hp => ?_⟩
      walk_at "w"
      refine adv T (show Rdr G (upd H p _) a dx pre (c :: r) from up_new hp ha) fun H1 ha1 b1 => ?_
      walk_at "w"
      have pa : p ≠ a := Ne.symm (ne_of_none ha hp)
      have e5 : (pre ++ [c]) ++ r = pre ++ c :: r := by simp
      refine power_loop T (ss := [.name c]) ha1 (b1 p _ upd_same pa) hp (((But.refl a H).new hp).trans b1) (by rw [e5]; exact hl) (by simp) fun H4 pre4 hp4 ha4 e4 b4 => ?_
      walk_at "w"
      exact kG _ _ rfl p H4 pre4 hp4 hp ha4 (e4.trans e5) b4
theorem rec_ok (T : Txt G) : ∀ d : Nat, FnG (RoomD d) P w G.K G.mg base (L2.CX P w) G.f_Reader_term G.d_Reader_term ["self"] (sp_Reader_term G d) ∧ FnG (RoomD d) P w G.K G.mg base (L2.CX P w) G.f_Reader_power G.d_Reader_power ["self"] (sp_Reader_power G d) := by
  intro d
  have hR : ∀ d A, RoomD d A → A.handled = none ∧ A.depth < recursionLimit := fun d A r => ⟨r.hd, by have := r.dp; omega⟩
  induction d with
  | zero =>
    refine ⟨⟨fun _ _ _ _ h => h.1, fun A outer s H args us vs Q E hr e b r h => ?_⟩, ⟨fun _ _ _ _ h => h.1, fun A outer s H args us vs Q E hr e b r h => ?_⟩⟩
    · obtain ⟨_, _, _, _, _, _, _, _, _, hd, _⟩ := h
      exact absurd hd (by omega)
    · obtain ⟨_, _, _, _, _, _, _, _, _, hd, _⟩ := h
      exact absurd hd (by omega)
  | succ d IH =>
    constructor
    · refine fnG (R' := RoomD d) T.F_Reader_term sc_Reader_term (hR _) (fun A env r => r.deeper env) (fun _ _ _ _ h => h.1) (fun cdv A outer s H vs Q E hr h => ⟨t_Reader_term G d (fun cls d _ H => E cls d H), ?_, pure_Reader_term T d vs H Q E h⟩)
      have tk : Takes (cxOf (L2.CX P w) P w G.K G.mg base ["self", "found"] "Reader.term" (defScope s_Reader_term) G.f_Reader_term cdv A outer s H E) (fun cls d _ H => E cls d H) := takes_of rfl rfl rfl rfl
      exact (pss_cons (ps_if (pt_cmpR op_eq (pe_meth0 (pv 0) T.cl_Reader T.m_Reader_sign (ok_Reader_sign T) (hr.room.mono (by decide)) T.b_Reader_sign .nil passL) pe_str (nomark _)) (pss_cons (ps_fld (pv 0) (pe_op o_addI (pe_fld (pv 0) rfl) pe_int) rfl)
    (pss_one (ps_ret (pe_lst (pa_cons pe_str pa_nil))))) pss_nil)
    (pss_cons (ps_if (pt_not (pt_val (pe_meth0 (pv 0) T.cl_Reader T.m_Reader_is_factor (ok_Reader_is_factor T) (hr.room.mono (by decide)) T.b_Reader_is_factor .nil passL))) (pss_one (ps_rz (T.e_NoTerm (ok_NoTerm_init T)) (hr.room.mono (by decide)) rfl tk (pe_fld (pv 0) rfl))) pss_nil)
    (pss_cons (ps_set (i := 1) sc_Reader_term.nd rfl (by first | exact Or.inl rfl | exact Or.inr rfl) (pe_methG0 (pv 0) T.cl_Reader T.m_Reader_power IH.2 hr T.b_Reader_power (fun σ => passAt tk σ)))
    (pss_cons (ps_while (passes_of rfl) (pt_val (pe_meth0 (pv 0) T.cl_Reader T.m_Reader_is_factor (ok_Reader_is_factor T) (hr.room.mono (by decide)) T.b_Reader_is_factor .nil passL)) (pss_one (ps_set (i := 1) sc_Reader_term.nd rfl (by first | exact Or.inl rfl | exact Or.inr rfl) (pe_op op_catS (pe_op op_catS (pv 1) (pe_methG0 (pv 0) T.cl_Reader T.m_Reader_power IH.2 hr T.b_Reader_power (fun σ => passAt tk σ))) (pe_lst (pa_cons pe_str pa_nil))))))
    (pss_one (ps_ret (pv 1)))))))
    · refine fnG (R' := RoomD d) T.F_Reader_power sc_Reader_power (hR _) (fun A env r => r.deeper env) (fun _ _ _ _ h => h.1) (fun cdv A outer s H vs Q E hr h => ⟨t_Reader_power G d (fun cls d _ H => E cls d H), ?_, pure_Reader_power T d vs H Q E h⟩)
      have tk : Takes (cxOf (L2.CX P w) P w G.K G.mg base ["self", "found"] "Reader.power" (defScope s_Reader_power) G.f_Reader_power cdv A outer s H E) (fun cls d _ H => E cls d H) := takes_of rfl rfl rfl rfl
      exact (pss_cons (ps_if (pt_cmpR op_eq (pe_meth0 (pv 0) T.cl_Reader T.m_Reader_sign (ok_Reader_sign T) (hr.room.mono (by decide)) T.b_Reader_sign .nil passL) pe_str (nomark _)) (pss_cons (ps_fld (pv 0) (pe_op o_addI (pe_fld (pv 0) rfl) pe_int) rfl)
    (pss_cons (ps_set (i := 1) sc_Reader_power.nd rfl (by first | exact Or.inl rfl | exact Or.inr rfl) (pe_methG0 (pv 0) T.cl_Reader T.m_Reader_term IH.1 hr T.b_Reader_term (fun σ => passAt tk σ)))
    (pss_one (ps_expr (pe_methG (pv 0) T.cl_Reader T.m_Reader_demand (LX.FnOk.g (ok_Reader_demand T)) (hr.room.mono (by decide)) T.b_Reader_demand (fun σ => passAt tk σ) (pa_cons pe_str pa_nil)))))) (pss_cons (ps_set (i := 1) sc_Reader_power.nd rfl (by first | exact Or.inl rfl | exact Or.inr rfl) (pe_lst (pa_cons (pe_meth0 (pv 0) T.cl_Reader T.m_Reader_sign (ok_Reader_sign T) (hr.room.mono (by decide)) T.b_Reader_sign .nil passL) pa_nil)))
    (pss_one (ps_fld (pv 0) (pe_op o_addI (pe_fld (pv 0) rfl) pe_int) rfl))))
    (pss_cons (ps_while (passes_of rfl) ((pw_and (pt_cmpR op_ne (pe_meth0 (pv 0) T.cl_Reader T.m_Reader_sign (ok_Reader_sign T) (hr.room.mono (by decide)) T.b_Reader_sign .nil passL) pe_str (nomark _)) (pw_and1 (pt_cmpR o_inG (pe_meth0 (pv 0) T.cl_Reader T.m_Reader_sign (ok_Reader_sign T) (hr.room.mono (by decide)) T.b_Reader_sign .nil passL) pe_str (by with_unfolding_all rfl)))).pt) (pss_cons (ps_expr (pe_bm PySem.F.plainAttrs_list PySem.F.slot_list_append PySem.F.type_list_append mt_append (pv 1) (pa_cons (pe_ifExp (pt_cmpR op_eq (pe_meth0 (pv 0) T.cl_Reader T.m_Reader_sign (ok_Reader_sign T) (hr.room.mono (by decide)) T.b_Reader_sign .nil passL) pe_str (nomark _)) pe_str pe_str) pa_nil)))
    (pss_one (ps_fld (pv 0) (pe_op o_addI (pe_fld (pv 0) rfl) pe_int) rfl))))
    (pss_one (ps_ret (pv 1)))))

end
end K81

set_option Elab.async false
set_option linter.all false
set_option maxRecDepth 100000
set_option maxHeartbeats 4000000
namespace K81
open PySem PySem.Spec PyProof.Rows L2 LX M81
local macro_rules | `(tactic| walk_at "hp") => `(tactic| first | assumption | exact upd_same | (refine up_new (by assumption) ?_; walk_at "hp") | (refine up_ne (by first | assumption | (exact Ne.symm (by assumption))) ?_; walk_at "hp") | (refine up_mut (by assumption) (by intro z; cases z) ?_; walk_at "hp"))
local macro_rules | `(tactic| walk_at "w1") => `(tactic| first
  | (with_reducible refine w_seq ?_) | (with_reducible refine w_asg ?_) | (with_reducible refine w_name ?_) | (with_reducible refine w_ret ?_) | (with_reducible refine w_drop ?_) | (with_reducible refine w_ifS ?_)
  | (with_reducible refine w_var (by with_unfolding_all exact rfl) ?_) | (with_reducible refine w_c ?_) | (with_reducible refine w_op ?_) | (with_reducible refine w_test ?_) | (with_reducible refine w_B ?_)
  | (with_reducible refine w_bl ?_) | (with_reducible refine w_cons ?_) | (with_reducible refine w_nil ?_) | (with_reducible refine w_cb ?_) | (with_reducible refine w_call ?_) | (with_reducible refine w_callS ?_)
  | (with_reducible refine w_addI ?_) | (with_reducible refine w_subI ?_) | (with_reducible refine w_ltI ?_) | (with_reducible refine w_leI ?_) | (with_reducible refine w_gtI ?_) | (with_reducible refine w_geI ?_)
  | (with_reducible refine w_tAnd ?_) | (with_reducible refine w_tOr ?_) | (with_reducible refine w_tNot ?_) | (with_reducible refine w_andV ?_) | (with_reducible refine w_orV ?_) | (with_reducible refine w_notV ?_) | (with_reducible refine w_if ?_)
  | (with_reducible refine w_un ?_) | (with_reducible refine w_neg ?_) | (with_reducible refine w_intI ?_) | (with_reducible refine w_intB ?_) | (with_reducible refine w_abs ?_)
  | (with_reducible refine w_eq (by with_unfolding_all exact rfl) ?_) | (with_reducible refine w_ne (by with_unfolding_all exact rfl) ?_) | (with_reducible refine w_isNone ?_) | (with_reducible refine w_notNone ?_)
  | (with_reducible refine w_tup ?_) | (with_reducible refine w_lst ?_) | (with_reducible refine w_sl ?_) | (with_reducible refine w_noPart ?_) | (with_reducible refine w_part ?_) | (with_reducible refine w_partI ?_)
  | (with_reducible refine w_fld0 ?_) | (with_reducible refine w_rz ?_)
  | (with_reducible refine w_next ?_) | (with_reducible refine w_brk ?_) | (with_reducible refine w_cont ?_) | (with_reducible refine w_retN ?_))
local macro_rules | `(tactic| walk_at "w") => `(tactic| repeat walk_at "w1")
local macro_rules | `(tactic| walk_at "u1") => `(tactic| first | walk_at "w1" | (with_reducible refine w_gsub ?_) | (with_reducible refine w_par ?_) | (with_reducible refine w_par3 ?_) | (with_reducible refine w_pr2 ?_) | (with_reducible refine w_pr3 ?_) | (with_reducible refine w_then ?_) | (with_reducible refine w_for ?_) | (with_reducible refine w_rng1 ?_) | (with_reducible refine w_enumS ?_) | (with_reducible refine w_iList ?_) | (with_reducible refine w_iTup ?_) | (with_reducible refine w_iStr ?_) | (with_reducible refine w_make ?_))
local macro_rules | `(tactic| walk_at "u") => `(tactic| repeat walk_at "u1")
section
variable {P : Program} {w : World} {base : Heap} {G : Gx}
/-! both terms, their names -/
theorem e_eq : ("=" : Str) = S [61] := by decide +kernel
def Two (G : Gx) (H : Hp) (l : List Nat) (Q : VK) (E : XK) (o : List Nat ⊕ (List M81.Step × List M81.Step)) : Prop :=
  (∀ q, o = .inl q → ∀ e H', H' e = some (.xd [("place", .int ((l.length - q.length : Nat) : Int))]) → Same H H' → E (.ref G.c_NoTerm) (some e) H') ∧
  (∀ ss ts, o = .inr (ss, ts) → ∀ p p1 p2 H', H' p = some (.tup [.ref p1, .ref p2]) → H' p1 = some (.lst (ss.map stepV)) → H' p2 = some (.lst (ts.map stepV)) → ss.length ≤ 1000 → ts.length ≤ 1000 → Same H H' → Q (.ref p) H')
/-- what is no text of at most 200 signs: refused with -1 -/
def Odd (G : Gx) (H : Hp) (v : V) : Prop := (∃ l, v = .str (S l) ∧ 200 < l.length ∧ l.length ≤ 16000000) ∨ ∃ t, TyX G.K H v (.type t) ∧ kitB t "str" = some false
def sp_two_terms (G : Gx) : Sp := fun vs H Q E => vs.length = 1 ∧ ∃ v, vs = [v] ∧ ((∃ l o, v = .str (S l) ∧ l.length ≤ 200 ∧ Both l o ∧ Two G H l Q E o) ∨
  (Odd G H v ∧ ∀ e H', H' e = some (.xd [("place", .int (-1))]) → Same H H' → E (.ref G.c_NoTerm) (some e) H'))
def t_two_terms (G : Gx) (W : WX) : TS :=
  tSeq (tIfS (tOr (tNot (tB (tCB (rIsi G.K) (tCons (tVar 0) (tCons (tC (.ty "str")) tNil))))) (tTest (tOp rGtI (tCB (rLen G.K) (tCons (tVar 0) tNil)) (tC (.int 200))))) (tRz G.K G.c_NoTerm "place" W (tUn uNeg (tC (.int 1)))) tNext)
  (tSeq (tAsg (tMake G.c_Reader (sp_Reader_init G) [] E0 (tCons (tVar 0) tNil)) (gName 1))
  (tSeq (tAsg (tMethG G.c_Reader "term" (sp_Reader_term G 410) (WE W) (tVar 1) tNil) (gName 2))
  (tSeq (tDrop (tMethG G.c_Reader "demand" (sp_Reader_demand G) (WE W) (tVar 1) (tCons (tC (.str "=")) tNil)))
  (tSeq (tAsg (tMethG G.c_Reader "term" (sp_Reader_term G 410) (WE W) (tVar 1) tNil) (gName 3))
  (tSeq (tIfS (tTest (tOp rLtI (tFld G.K (tVar 1) "spot") (tCB (rLen G.K) (tCons (tVar 0) tNil)))) (tRz G.K G.c_NoTerm "place" W (tFld G.K (tVar 1) "spot")) tNext)
  (tRet (tTup (tCons (tVar 2) (tCons (tVar 3) tNil)))))))))
theorem same_new {H H1 : Hp} {p : Addr} {o : HO} (x : Same H H1) (n : H1 p = none) : Same H (upd H1 p o) := fun b u h => up_new n (x b u h)
theorem But.same {a : Addr} {H0 H H1 : Hp} (b : But a H H1) (s : Same H0 H) (n : H0 a = none) : Same H0 H1 := fun c o h => b c o (s c o h) (ne_of_none h n)
theorem str_ty : kitB "str" "str" = some true := by decide +kernel
theorem pure_two_terms (T : Txt G) (vs : List V) (H : Hp) (Q : VK) (E : XK) (h : sp_two_terms G vs H Q E) : t_two_terms G (fun cls d _ H => E cls d H) { nx := fun _ H' => Q .non H', rt := Q } (start ["text", "reader", "first", "second"] vs) H := by
  obtain ⟨_, v, rfl, h⟩ := h
  unfold t_two_terms
  walk_at "w"
  rcases h with ⟨l, o, rfl, hl, hb, kE, kQ⟩ | ⟨odd, kE⟩
  · refine ⟨_, _, _, _, _, rfl, .ty _, .base (.str _), kit_ty str_ty, ?_⟩
    walk_at "w"
    refine iteF ?_
    walk_at "w"
    refine w_lenS (line1000 (by rw [S_len]; omega)) ?_
    walk_at "w"
    refine w_ite (fun h => absurd h (by rw [S_len]; omega)) fun _ => ?_
    walk_at "w"
    refine w_make ?_
    walk_at "w"
    intro a dx na ndx ne
    refine ⟨rfl, a, dx, l, rfl, upd_same, fun H1 ha1 b1 => ⟨rfl, ?_⟩⟩
    have s1 : Same H H1 := fun b u h => b1 b u (by rw [upd_ne (ne_of_none h na), upd_ne (ne_of_none h ndx)]; exact h) (ne_of_none h na)
    walk_at "w"
    -- first = reader.term()
    obtain ⟨o1, ht, rest⟩ : ∃ o1, TermR l o1 ∧ ((∃ q, o1 = .bad q ∧ o = .inl q) ∨ ∃ ss q, o1 = .good ss q ∧ ((q.head? ≠ some 61 ∧ o = .inl q) ∨ ∃ q', q = 61 :: q' ∧ ∃ o2, TermR q' o2 ∧ ((∃ q2, o2 = .bad q2 ∧ o = .inl q2) ∨ ∃ ts q2, o2 = .good ts q2 ∧ ((q2 ≠ [] ∧ o = .inl q2) ∨ (q2 = [] ∧ o = .inr (ss, ts)))))) := by
      cases hb with
      | bad1 h => exact ⟨_, h, .inl ⟨_, rfl, rfl⟩⟩
      | noEq h n => exact ⟨_, h, .inr ⟨_, _, rfl, .inl ⟨n, rfl⟩⟩⟩
      | bad2 h h2 => exact ⟨_, h, .inr ⟨_, _, rfl, .inr ⟨_, rfl, _, h2, .inl ⟨_, rfl, rfl⟩⟩⟩⟩
      | rest h h2 n => exact ⟨_, h, .inr ⟨_, _, rfl, .inr ⟨_, rfl, _, h2, .inr ⟨_, _, rfl, .inl ⟨n, rfl⟩⟩⟩⟩⟩
      | good h h2 => exact ⟨_, h, .inr ⟨_, _, rfl, .inr ⟨_, rfl, _, h2, .inr ⟨_, _, rfl, .inr ⟨rfl, rfl⟩⟩⟩⟩⟩
    refine r_term (i := 1) ha1 (by simp; omega) (by omega) ht (fun ss q eo => ?_) (fun q eo => ?_)
    rotate_left
    · rcases rest with ⟨q', e1, e2⟩ | ⟨ss, q', e1, _⟩
      · rw [eo] at e1
        cases e1
        intro e H2 he b2
        exact kE q e2 e H2 he (b2.same s1 na)
      · rw [eo] at e1; cases e1
    · intro p H2 pre2 h2 n2 ha2 e2 b2
      rcases rest with ⟨q', e1, _⟩ | ⟨ss', q', e1, e3⟩
      · rw [eo] at e1; cases e1
      · rw [eo] at e1
        cases e1
        have e2' : pre2 ++ q = l := e2
        have sz := term_size (eo ▸ ht)
        have s2 : Same H H2 := b2.same s1 na
        have hl2 : (pre2 ++ q).length ≤ 201 := by rw [e2']; omega
        walk_at "w"
        refine r_demand (i := 1) 61 ha2 hl2 e_eq (fun hn d0 hd0 => ?_) (fun q' eq H3 ha3 b3 => ?_)
        · rcases e3 with ⟨_, eo2⟩ | ⟨q', eq, _⟩
          · refine kE q eo2 d0 _ ?_ (same_new s2 hd0)
            rw [upd_same, place_of e2']
          · subst eq; exact absurd rfl hn
        · subst eq
          rcases e3 with ⟨hn, _⟩ | ⟨q'', eq, o2, ht2, rest2⟩
          · exact absurd rfl hn
          · cases eq
            have s3 : Same H H3 := b3.same s2 na
            have pa : p ≠ a := lst_ne ha2 h2
            have e5 : (pre2 ++ [61]) ++ q' = l := by rw [← e2']; simp
            walk_at "w"
            have lq : q'.length ≤ 200 := by
              have := congrArg List.length e5
              rw [List.length_append] at this
              omega
            refine r_term (i := 1) ha3 (by rw [e5]; omega) (by omega) ht2 (fun ts q2 eo3 => ?_) (fun q2 eo3 => ?_)
            rotate_left
            · rcases rest2 with ⟨q3, f1, f2⟩ | ⟨ts, q3, f1, _⟩
              · rw [eo3] at f1
                cases f1
                intro e H4 he b4
                exact kE q2 f2 e H4 (by rw [← e5]; exact he) (b4.same s3 na)
              · rw [eo3] at f1; cases f1
            · intro p2 H4 pre4 h4 n4 ha4 e4 b4
              have s4 : Same H H4 := b4.same s3 na
              have sz2 := term_size (eo3 ▸ ht2)
              have e4' : pre4 ++ q2 = l := e4.trans e5
              rcases rest2 with ⟨q3, f1, f2⟩ | ⟨ts', q3, f1, f2⟩
              · rw [eo3] at f1; cases f1
              · rw [eo3] at f1
                cases f1
                walk_at "w"
                refine ⟨a, _, dx, _, _, rfl, ha4, T.cl_Reader, T.na_Reader_spot, flds_spot _ _, ?_⟩
                walk_at "w"
                refine w_lenS (line1000 (by rw [S_len]; omega)) ?_
                walk_at "w"
                rw [S_len]
                rcases f2 with ⟨nn, f3⟩ | ⟨rfl, f3⟩
                · refine w_ite (fun _ => ?_) fun hn => ?_
                  · refine ⟨_, rfl, a, _, dx, _, _, rfl, ha4, T.cl_Reader, T.na_Reader_spot, flds_spot _ _, w_mk T.oe_NoTerm T.no_NoTerm_place fun d0 hd0 => ?_⟩
                    refine kE q2 f3 d0 _ ?_ (same_new s4 hd0)
                    rw [upd_same, place_of e4']
                  · refine absurd ?_ hn
                    have := congrArg List.length e4'
                    rw [List.length_append] at this
                    have : 0 < q2.length := List.length_pos_iff.mpr nn
                    omega
                · have e4'' : pre4 = l := by rw [← e4']; simp
                  refine w_ite (fun hn => ?_) fun _ => ?_
                  · rw [e4''] at hn
                    omega
                  · walk_at "w"
                    refine ⟨by show 2 ≤ sizeLine; decide, fun p3 hp3 => ?_⟩
                    have hp1 : H4 p = some (.lst (ss.map stepV)) := b4 p _ (b3 p _ h2 pa) pa
                    exact kQ ss ts f3 p3 p p2 _ upd_same (up_new hp3 hp1) (up_new hp3 h4) (by omega) (by omega) (same_new s4 hp3)
  · have go : ∀ σ, tRz G.K G.c_NoTerm "place" (fun cls d _ H => E cls d H) (tUn uNeg (tC (.int 1))) { nx := fun _ H' => Q .non H', rt := Q } σ H := fun σ => by
      walk_at "w"
      refine w_mk T.oe_NoTerm T.no_NoTerm_place fun d0 hd0 => ?_
      exact kE d0 _ upd_same (same_new (Same.refl H) hd0)
    rcases odd with ⟨l, rfl, h1, h2⟩ | ⟨t, ty, hk⟩
    · refine ⟨_, _, _, _, _, rfl, .ty _, .base (.str _), kit_ty str_ty, ?_⟩
      walk_at "w"
      refine iteF ?_
      walk_at "w"
      refine w_lenS (line1000 (by rw [S_len]; omega)) ?_
      walk_at "w"
      refine w_ite (fun _ => ?_) fun h => absurd (show (200 : Int) < ((S l).length : Int) by rw [S_len]; omega) h
      exact go _
    · refine ⟨_, _, _, _, _, rfl, .ty _, ty, kit_ty hk, ?_⟩
      walk_at "w"
      refine iteT ?_
      exact go _
theorem ok_two_terms (T : Txt G) : FnOk P w G.K G.mg base (L2.CX P w) 150 G.f_two_terms G.d_two_terms ["text"] (sp_two_terms G) := by
  refine T.F_two_terms.okX sc_two_terms (fun _ _ _ _ h => h.1) (fun cdv A outer s H vs Q E hr h => ⟨t_two_terms G (fun cls d _ H => E cls d H), ?_, pure_two_terms T vs H Q E h⟩)
  have tk : Takes (cxOf (L2.CX P w) P w G.K G.mg base ["text", "reader", "first", "second"] "two_terms" (defScope s_two_terms) G.f_two_terms cdv A outer s H E) (fun cls d _ H => E cls d H) := takes_of rfl rfl rfl rfl
  exact (pss_cons (ps_if ((pw_or (pt_not (pt_val (pe_callB call_isi (by rfl) T.n_isinstance boot_isinstance (pa_cons (pv 0) (pa_cons (pe_b T.n_str boot_str) pa_nil))))) (pw_or1 (pt_cmpR o_gtI (pe_callB c_len (by rfl) T.n_len PySem.boot_len (pa_cons (pv 0) pa_nil)) (pe_g T.k_MOST_TEXT) (nomark _)))).pt) (pss_one (ps_rz (T.e_NoTerm (ok_NoTerm_init T)) (hr.mono (by decide)) rfl tk (pe_un u_neg pe_int))) pss_nil)
    (pss_cons (ps_set (i := 1) sc_two_terms.nd rfl (by first | exact Or.inl rfl | exact Or.inr rfl) (pe_make T.mk_Reader (ok_Reader_init T) (hr.mono (by decide)) rfl T.gc_Reader T.b_Reader_init .nil passL (pa_cons (pv 0) pa_nil)))
    (pss_cons (ps_set (i := 2) sc_two_terms.nd rfl (by first | exact Or.inl rfl | exact Or.inr rfl) (pe_methG0 (pv 1) T.cl_Reader T.m_Reader_term (rec_ok T 410).1 (RoomD.of hr (by decide) (by decide)) T.b_Reader_term (fun σ => passAt tk σ)))
    (pss_cons (ps_expr (pe_methG (pv 1) T.cl_Reader T.m_Reader_demand (LX.FnOk.g (ok_Reader_demand T)) (hr.mono (by decide)) T.b_Reader_demand (fun σ => passAt tk σ) (pa_cons pe_str pa_nil)))
    (pss_cons (ps_set (i := 3) sc_two_terms.nd rfl (by first | exact Or.inl rfl | exact Or.inr rfl) (pe_methG0 (pv 1) T.cl_Reader T.m_Reader_term (rec_ok T 410).1 (RoomD.of hr (by decide) (by decide)) T.b_Reader_term (fun σ => passAt tk σ)))
    (pss_cons (ps_if (pt_cmpR o_ltI (pe_fld (pv 1) rfl) (pe_callB c_len (by rfl) T.n_len PySem.boot_len (pa_cons (pv 0) pa_nil)) (nomark _)) (pss_one (ps_rz (T.e_NoTerm (ok_NoTerm_init T)) (hr.mono (by decide)) rfl tk (pe_fld (pv 1) rfl))) pss_nil)
    (pss_one (ps_ret (pe_tup (pa_cons (pv 2) (pa_cons (pv 3) pa_nil)))))))))))

/-! names_in -/
def nameCodes : List Nat := [119, 120, 121, 122]
def namesOf (f : Nat → Bool) : List V := (nameCodes.filter f).map fun c => .str (S [c])
def sp_names_in (G : Gx) : Sp := fun vs H Q _ => vs.length = 2 ∧ ∃ (p1 p2 : Addr) (ss ts : List M81.Step), vs = [.ref p1, .ref p2] ∧ H p1 = some (.lst (ss.map stepV)) ∧ H p2 = some (.lst (ts.map stepV)) ∧ ss.length ≤ 1000 ∧ ts.length ≤ 1000 ∧
  ∀ p H', H' p = some (.tup (namesOf fun c => decide (.name c ∈ ss ∨ .name c ∈ ts))) → Same H H' → Q (.ref p) H'
def t_names_in (G : Gx) (W : WX) : TS :=
  tRet (tThen (tLc (iStr (tC (.str "wxyz"))) (gName 2) (tOr (tTest (tOp (rIn G.K false) (tVar 2) (tVar 0))) (tTest (tOp (rIn G.K false) (tVar 2) (tVar 1)))) (tVar 2) [2]) (kTup G.K))
theorem eqV_step {c : Nat} (h : isName c = true) (s : M81.Step) : eqV (stepV s) (.str (S [c])) = decide (s = .name c) := by
  have k : ∀ (x : Str) (l : List Nat), x = S l → l ≠ [c] → (x == S [c]) = false := fun x l e n => by
    rw [e]
    simpa using fun q => n (S_inj q)
  cases s with
  | name d =>
    show (S [d] == S [c]) = _
    by_cases e : d = c
    · subst e; simp
    · rw [decide_eq_false (by simpa using e)]
      exact k _ [d] rfl (by simpa using e)
  | one => exact k _ [111, 110, 101] (by decide +kernel) (by simp)
  | times => exact k _ [116, 105, 109, 101, 115] (by decide +kernel) (by simp)
  | omega => exact k _ [111, 109, 101, 103, 97] (by decide +kernel) (by simp)
  | less => exact k _ [108, 101, 115, 115] (by decide +kernel) (by simp)
theorem inV_step {c : Nat} (h : isName c = true) (ss : List M81.Step) : inV (.str (S [c])) (ss.map stepV) = decide (.name c ∈ ss) := by
  induction ss with
  | nil => rfl
  | cons s ss ih =>
    have ih' : (ss.map stepV).any (fun y => eqV y (.str (S [c]))) = decide (.name c ∈ ss) := ih
    show (eqV (stepV s) (.str (S [c])) || (ss.map stepV).any fun y => eqV y (.str (S [c]))) = _
    rw [eqV_step h, ih', ← Bool.decide_or]
    congr 1
    simp [eq_comm]
theorem flat_steps (ss : List M81.Step) : (ss.map stepV).all flatV = true := by
  rw [List.all_map]
  exact List.all_eq_true.mpr fun s _ => by cases s <;> rfl
theorem e_names : ("wxyz" : Str) = S nameCodes := by decide +kernel
theorem names_range (f : Nat → Bool) : ((List.range 4).filter fun i => f (nameCodes.getD i 0)).map (fun i => V.str ⟨#[(S nameCodes).cps.getD i 0]⟩) = namesOf f := by
  have e : (List.range 4) = [0, 1, 2, 3] := rfl
  rw [e]
  show (([0, 1, 2, 3] : List Nat).filter fun i => f (nameCodes.getD i 0)).map (fun i => V.str ⟨#[(S nameCodes).cps.getD i 0]⟩) = (([119, 120, 121, 122] : List Nat).filter f).map fun c => .str (S [c])
  have g : ∀ i : Nat, i < 4 → (S nameCodes).cps.getD i 0 = nameCodes.getD i 0 := by decide
  simp only [List.filter_cons, List.filter_nil, nameCodes, List.getD_cons_zero, List.getD_cons_succ]
  cases f 119 <;> cases f 120 <;> cases f 121 <;> cases f 122 <;> rfl
theorem pure_names_in (T : Txt G) (vs : List V) (H : Hp) (Q : VK) (E : XK) (h : sp_names_in G vs H Q E) : t_names_in G (fun cls d _ H => E cls d H) { nx := fun _ H' => Q .non H', rt := Q } (start ["first", "second", "name"] vs) H := by
  obtain ⟨_, p1, p2, ss, ts, rfl, h1, h2, _, _, k⟩ := h
  unfold t_names_in
  walk_at "w"
  refine ⟨_, rfl, fun p hp => ?_⟩
  have hn : ∀ i : Nat, i < 4 → isName (nameCodes.getD i 0) = true := by decide
  refine lc_filter (i := 2) (f := fun i => (fun c => decide (.name c ∈ ss ∨ .name c ∈ ts)) (nameCodes.getD i 0)) (fix_str _) (by decide) hp (fun x => rfl) (fun x => rfl) (fun j H1 R hj s1 q => ?_) fun H1 s1 e1 => ?_
  · have hj : j < 4 := hj
    have ec : (V.str ⟨#[("wxyz" : Str).cps.getD j 0]⟩) = .str (S [nameCodes.getD j 0]) := by
      rw [e_names]
      have : ∀ i : Nat, i < 4 → (S nameCodes).cps.getD i 0 = nameCodes.getD i 0 := by decide
      rw [this j hj]
      rfl
    rw [ec]
    walk_at "w"
    refine ⟨p1, _, rfl, .inl (SqL.of (s1 _ _ h1)), rfl, flat_steps ss, ?_⟩
    rw [if_neg Bool.false_ne_true, inV_step (hn j hj)]
    walk_at "w"
    refine w_ite (fun h => ?_) fun h => ?_
    · have : decide (.name (nameCodes.getD j 0) ∈ ss ∨ .name (nameCodes.getD j 0) ∈ ts) = true := decide_eq_true (.inl h)
      rw [← this]
      exact q
    · walk_at "w"
      refine ⟨p2, _, rfl, .inl (SqL.of (s1 _ _ h2)), rfl, flat_steps ts, ?_⟩
      rw [if_neg Bool.false_ne_true, inV_step (hn j hj)]
      walk_at "w"
      have : decide (.name (nameCodes.getD j 0) ∈ ts) = decide (.name (nameCodes.getD j 0) ∈ ss ∨ .name (nameCodes.getD j 0) ∈ ts) := decide_eq_decide.mpr ⟨.inr, fun x => x.resolve_left h⟩
      rw [this]
      exact q
  · refine .inl ⟨p, _, rfl, SqL.of e1, fun q hq => k q _ ?_ (same_new s1 hq)⟩
    rw [upd_same, e_names]
    exact congrArg (fun x => some (HO.tup x)) (names_range fun c => decide (.name c ∈ ss ∨ .name c ∈ ts))
theorem ok_names_in (T : Txt G) : FnOk P w G.K G.mg base (L2.CX P w) 1 G.f_names_in G.d_names_in ["first", "second"] (sp_names_in G) := by
  refine T.F_names_in.okX sc_names_in (fun _ _ _ _ h => h.1) (fun cdv A outer s H vs Q E hr h => ⟨t_names_in G (fun cls d _ H => E cls d H), ?_, pure_names_in T vs H Q E h⟩)
  have tk : Takes (cxOf (L2.CX P w) P w G.K G.mg base ["first", "second", "name"] "names_in" (defScope s_names_in) G.f_names_in cdv A outer s H E) (fun cls d _ H => E cls d H) := takes_of rfl rfl rfl rfl
  exact (pss_one (ps_ret (pe_tupleOf rfl T.n_tuple (pe_lc (own := [("name", 2)]) (g := (gName 2)) (tt := tOr (tTest (tOp (rIn G.K false) (tVar 2) (tVar 0))) (tTest (tOp (rIn G.K false) (tVar 2) (tVar 1)))) rfl sc_names_in.nd (pi_str (pe_g T.k_NAMES)) (blkOk_by (N := ["first", "second", "name"]) (sc := defScope s_names_in) (by decide +kernel)) (fun _ _ _ _ _ => pg_name (i := 2) sc_names_in.nd rfl (by first | exact Or.inl rfl | exact Or.inr rfl)) (fun _ _ _ _ _ => pts_one ((pw_or (pt_cmpR op_in_seq (pv 2) (pv 0) (by with_unfolding_all rfl)) (pw_or1 (pt_cmpR op_in_seq (pv 2) (pv 1) (by with_unfolding_all rfl)))).pt)) (fun _ _ _ _ _ => pv 2)))))

/-! read_identity -/
def Read (G : Gx) (H : Hp) (l : List Nat) (Q : VK) (E : XK) (o : List Nat ⊕ (List M81.Step × List M81.Step)) : Prop :=
  (∀ q, o = .inl q → ∀ e H', H' e = some (.xd [("place", .int ((l.length - q.length : Nat) : Int))]) → Same H H' → E (.ref G.c_NoTerm) (some e) H') ∧
  (∀ ss ts, o = .inr (ss, ts) → ∀ p H', H' p = some (.tup (namesOf fun c => decide (.name c ∈ ss ∨ .name c ∈ ts))) → Same H H' → Q (.ref p) H')
def sp_read_identity (G : Gx) : Sp := fun vs H Q E => vs.length = 1 ∧ ∃ v, vs = [v] ∧ ((∃ l o, v = .str (S l) ∧ l.length ≤ 200 ∧ Both l o ∧ Read G H l Q E o) ∨
  (Odd G H v ∧ ∀ e H', H' e = some (.xd [("place", .int (-1))]) → Same H H' → E (.ref G.c_NoTerm) (some e) H'))
def t_read_identity (G : Gx) (W : WX) : TS :=
  tSeq (tAsg (tCallS (sp_two_terms G) (WE W) (tCons (tVar 0) tNil)) (gTup G.K 2 (gCons (gName 1) (gCons (gName 2) gNil))))
  (tRet (tCall (sp_names_in G) [] E0 (tCons (tVar 1) (tCons (tVar 2) tNil))))
theorem pure_read_identity (T : Txt G) (vs : List V) (H : Hp) (Q : VK) (E : XK) (h : sp_read_identity G vs H Q E) : t_read_identity G (fun cls d _ H => E cls d H) { nx := fun _ H' => Q .non H', rt := Q } (start ["text", "first", "second"] vs) H := by
  obtain ⟨_, v, rfl, h⟩ := h
  unfold t_read_identity
  walk_at "w"
  refine ⟨rfl, v, rfl, ?_⟩
  rcases h with ⟨l, o, rfl, hl, hb, kE, kQ⟩ | ⟨odd, kE⟩
  · refine .inl ⟨l, o, rfl, hl, hb, kE, fun ss ts eo p p1 p2 H1 hp h1 h2 l1 l2 s1 => ?_⟩
    refine ⟨p, _, rfl, SqT.of hp, rfl, ?_⟩
    refine ⟨_, _, rfl, ?_⟩
    walk_at "w"
    refine ⟨_, _, rfl, ?_⟩
    walk_at "w"
    refine ⟨rfl, ?_⟩
    walk_at "w"
    exact ⟨rfl, p1, p2, ss, ts, rfl, h1, h2, l1, l2, fun q H2 hq s2 => kQ ss ts eo q H2 hq (s1.trans s2)⟩
  · exact .inr ⟨odd, kE⟩
theorem ok_read_identity (T : Txt G) : FnOk P w G.K G.mg base (L2.CX P w) 151 G.f_read_identity G.d_read_identity ["text"] (sp_read_identity G) := by
  refine T.F_read_identity.okX sc_read_identity (fun _ _ _ _ h => h.1) (fun cdv A outer s H vs Q E hr h => ⟨t_read_identity G (fun cls d _ H => E cls d H), ?_, pure_read_identity T vs H Q E h⟩)
  have tk : Takes (cxOf (L2.CX P w) P w G.K G.mg base ["text", "first", "second"] "read_identity" (defScope s_read_identity) G.f_read_identity cdv A outer s H E) (fun cls d _ H => E cls d H) := takes_of rfl rfl rfl rfl
  exact (pss_cons (ps_asg (pe_callS (ok_two_terms T) (hr.mono (by decide)) rfl T.g_two_terms T.F_two_terms.kp T.b_two_terms (fun σ => passAt tk σ) (pa_cons (pv 0) pa_nil)) (pg_tup rfl (pgs_cons (pg_name (i := 1) sc_read_identity.nd rfl (by first | exact Or.inl rfl | exact Or.inr rfl)) (pgs_cons (pg_name (i := 2) sc_read_identity.nd rfl (by first | exact Or.inl rfl | exact Or.inr rfl)) pgs_nil))))
    (pss_one (ps_ret (pe_call (ok_names_in T) (hr.mono (by decide)) rfl T.g_names_in T.F_names_in.kp T.b_names_in .nil passL (pa_cons (pv 1) (pa_cons (pv 2) pa_nil))))))

end
end K81

set_option Elab.async false
set_option linter.all false
set_option maxRecDepth 100000
set_option maxHeartbeats 4000000
namespace K81
open PySem PySem.Spec PyProof.Rows L2 LX M81
local macro_rules | `(tactic| walk_at "hp") => `(tactic| first | assumption | exact upd_same | (refine up_new (by assumption) ?_; walk_at "hp") | (refine up_ne (by first | assumption | (exact Ne.symm (by assumption))) ?_; walk_at "hp") | (refine up_mut (by assumption) (by intro z; cases z) ?_; walk_at "hp"))
local macro_rules | `(tactic| walk_at "w1") => `(tactic| first
  | (with_reducible refine w_seq ?_) | (with_reducible refine w_asg ?_) | (with_reducible refine w_name ?_) | (with_reducible refine w_ret ?_) | (with_reducible refine w_drop ?_) | (with_reducible refine w_ifS ?_)
  | (with_reducible refine w_var (by with_unfolding_all exact rfl) ?_) | (with_reducible refine w_c ?_) | (with_reducible refine w_op ?_) | (with_reducible refine w_test ?_) | (with_reducible refine w_B ?_)
  | (with_reducible refine w_bl ?_) | (with_reducible refine w_cons ?_) | (with_reducible refine w_nil ?_) | (with_reducible refine w_cb ?_) | (with_reducible refine w_call ?_) | (with_reducible refine w_callS ?_)
  | (with_reducible refine w_addI ?_) | (with_reducible refine w_subI ?_) | (with_reducible refine w_ltI ?_) | (with_reducible refine w_leI ?_) | (with_reducible refine w_gtI ?_) | (with_reducible refine w_geI ?_)
  | (with_reducible refine w_tAnd ?_) | (with_reducible refine w_tOr ?_) | (with_reducible refine w_tNot ?_) | (with_reducible refine w_andV ?_) | (with_reducible refine w_orV ?_) | (with_reducible refine w_notV ?_) | (with_reducible refine w_if ?_)
  | (with_reducible refine w_un ?_) | (with_reducible refine w_neg ?_) | (with_reducible refine w_intI ?_) | (with_reducible refine w_intB ?_) | (with_reducible refine w_abs ?_)
  | (with_reducible refine w_eq (by with_unfolding_all exact rfl) ?_) | (with_reducible refine w_ne (by with_unfolding_all exact rfl) ?_) | (with_reducible refine w_isNone ?_) | (with_reducible refine w_notNone ?_)
  | (with_reducible refine w_tup ?_) | (with_reducible refine w_lst ?_) | (with_reducible refine w_sl ?_) | (with_reducible refine w_noPart ?_) | (with_reducible refine w_part ?_) | (with_reducible refine w_partI ?_)
  | (with_reducible refine w_fld0 ?_) | (with_reducible refine w_rz ?_)
  | (with_reducible refine w_next ?_) | (with_reducible refine w_brk ?_) | (with_reducible refine w_cont ?_) | (with_reducible refine w_retN ?_))
local macro_rules | `(tactic| walk_at "w") => `(tactic| repeat walk_at "w1")
local macro_rules | `(tactic| walk_at "u1") => `(tactic| first | walk_at "w1" | (with_reducible refine w_gsub ?_) | (with_reducible refine w_par ?_) | (with_reducible refine w_par3 ?_) | (with_reducible refine w_pr2 ?_) | (with_reducible refine w_pr3 ?_) | (with_reducible refine w_then ?_) | (with_reducible refine w_for ?_) | (with_reducible refine w_rng1 ?_) | (with_reducible refine w_enumS ?_) | (with_reducible refine w_iList ?_) | (with_reducible refine w_iTup ?_) | (with_reducible refine w_iStr ?_) | (with_reducible refine w_make ?_))
local macro_rules | `(tactic| walk_at "u") => `(tactic| repeat walk_at "u1")
section
variable {P : Program} {w : World} {base : Heap} {G : Gx}
/-! the law's source of ints -/
theorem b01 (b : Bool) : -(2 ^ 64) < (if b = true then (1 : Int) else 0) ∧ (if b = true then (1 : Int) else 0) < 2 ^ 64 := by cases b <;> decide
def SrcAt (H : Hp) (s : Addr) : Prop := ∃ a b c : Int, H s = some (.lst [.int a, .int b, .int c])
def sp__law_source (G : Gx) : Sp := fun vs H Q _ => vs.length = 1 ∧ ∃ i : Int, vs = [.int i] ∧ ∀ p H', H p = none → SrcAt H' p → Same H H' → Q (.ref p) H'
def t__law_source (G : Gx) (W : WX) : TS :=
  tSeq (tAsg (tCB rAbs (tCons (tVar 0) tNil)) (gName 0))
  (tRet (tLst (tCons (tOp rMulI (tVar 0) (tCB rInt (tCons (tOp rGeI (tVar 0) (tOp rPowI (tC (.int 10)) (tC (.int 18)))) tNil))) (tCons (tOp rModI (tCB rInt (tCons (tVar 0) tNil)) (tC (.int 2147483587))) (tCons (tC (.int 0)) tNil)))))
theorem pure__law_source (T : Txt G) (vs : List V) (H : Hp) (Q : VK) (E : XK) (h : sp__law_source G vs H Q E) : t__law_source G (fun cls d _ H => E cls d H) { nx := fun _ H' => Q .non H', rt := Q } (start ["_law_cell"] vs) H := by
  obtain ⟨_, i, rfl, k⟩ := h
  unfold t__law_source
  walk_at "u"
  refine w_powI ⟨by decide, by decide, by decide⟩ ?_
  walk_at "u"
  refine w_mulI (.inr (b01 _)) ?_
  walk_at "u"
  refine w_modI (by decide) ?_
  walk_at "u"
  refine ⟨by show 3 ≤ sizeLine; decide, fun p hp => k p _ hp ⟨_, _, _, upd_same⟩ (same_new (Same.refl H) hp)⟩
theorem ok__law_source (T : Txt G) : FnOk P w G.K G.mg base (L2.CX P w) 1 G.f__law_source G.d__law_source ["_law_cell"] (sp__law_source G) := by
  refine T.F__law_source.okX sc__law_source (fun _ _ _ _ h => h.1) (fun cdv A outer s H vs Q E hr h => ⟨t__law_source G (fun cls d _ H => E cls d H), ?_, pure__law_source T vs H Q E h⟩)
  have tk : Takes (cxOf (L2.CX P w) P w G.K G.mg base ["_law_cell"] "_law_source" (defScope s__law_source) G.f__law_source cdv A outer s H E) (fun cls d _ H => E cls d H) := takes_of rfl rfl rfl rfl
  exact (pss_cons (ps_set (i := 0) sc__law_source.nd rfl (by first | exact Or.inl rfl | exact Or.inr rfl) (pe_callB c_abs (by rfl) T.n_abs boot_abs (pa_cons (pv 0) pa_nil)))
    (pss_one (ps_ret (pe_lst (pa_cons (pe_op o_mulI (pv 0) (pe_callTy c_int (by rfl) T.n_int boot_int (pa_cons (pe_cmpR o_geI (pv 0) (pe_op o_powI pe_int pe_int) (nomark _)) pa_nil))) (pa_cons (pe_op o_modI (pe_callTy c_int (by rfl) T.n_int boot_int (pa_cons (pv 0) pa_nil)) pe_int) (pa_cons pe_int pa_nil)))))))

def sp__law_draw (G : Gx) : Sp := fun vs H Q _ => vs.length = 2 ∧ ∃ (s : Addr) (n : Int), vs = [.ref s, .int n] ∧ SrcAt H s ∧ 0 < n ∧ n < 1073741824 ∧ ∀ r H', 0 ≤ r → r < n → SrcAt H' s → But s H H' → Q (.int r) H'
def t__law_draw (G : Gx) (W : WX) : TS :=
  tSeq (tIfS (tTest (tOp rGtI (tOp (rIxL G.K) (tVar 0) (tC (.int 0))) (tC (.int 0)))) (tSeq (tAsg (tOp rModI (tCB rInt (tCons (tOp (rIxL G.K) (tVar 0) (tC (.int 0))) tNil)) (tVar 1)) (gName 3))
  (tSeq (tAsg (tOp rDivI (tOp (rIxL G.K) (tVar 0) (tC (.int 0))) (tVar 1)) (gSub (tVar 0) (tC (.int 0)) rSetL))
  (tRet (tVar 3)))) tNext)
  (tSeq (tAsg (tOp rAddI (tOp (rIxL G.K) (tVar 0) (tC (.int 2))) (tC (.int 1))) (gSub (tVar 0) (tC (.int 2)) rSetL))
  (tSeq (tAsg (tOp rModI (tCB rInt (tCons (tOp rMulI (tOp rAddI (tOp rAddI (tOp (rIxL G.K) (tVar 0) (tC (.int 1))) (tOp rMulI (tC (.int 7919)) (tOp (rIxL G.K) (tVar 0) (tC (.int 2))))) (tC (.int 13))) (tC (.int 48271))) tNil)) (tC (.int 2147483629))) (gName 2))
  (tSeq (tAsg (tOp rModI (tCB rInt (tCons (tOp rMulI (tVar 2) (tOp rAddI (tOp rDivI (tVar 2) (tC (.int 1019))) (tC (.int 69621)))) tNil)) (tC (.int 2147483579))) (gName 2))
  (tRet (tOp rModI (tCB rInt (tCons (tOp rDivI (tOp rModI (tCB rInt (tCons (tOp rMulI (tVar 2) (tOp rAddI (tOp rDivI (tVar 2) (tC (.int 2003))) (tC (.int 40692)))) tNil)) (tC (.int 2147483549))) (tC (.int 3))) tNil)) (tVar 1))))))
theorem pure__law_draw (T : Txt G) (vs : List V) (H : Hp) (Q : VK) (E : XK) (h : sp__law_draw G vs H Q E) : t__law_draw G (fun cls d _ H => E cls d H) { nx := fun _ H' => Q .non H', rt := Q } (start ["_law_source_here", "_law_many", "_law_mixed", "_law_digit"] vs) H := by
  obtain ⟨_, s, n, rfl, ⟨a, b, c, hs⟩, h0, hn, k⟩ := h
  unfold t__law_draw
  walk_at "u"
  refine w_ixL (SqL.of hs) rfl ?_
  walk_at "u"
  refine w_ite (fun _ => ?_) fun _ => ?_
  · walk_at "u"
    refine w_ixL (SqL.of hs) rfl ?_
    walk_at "u"
    refine w_modI h0 ?_
    walk_at "u"
    refine w_ixL (SqL.of hs) rfl ?_
    walk_at "u"
    refine w_divI ⟨h0, hn⟩ ?_
    walk_at "u"
    refine w_setL hs rfl ?_
    walk_at "u"
    exact k _ _ (Int.emod_nonneg _ (by omega)) (Int.emod_lt_of_pos _ h0) ⟨_, _, _, upd_same⟩ But.at_
  · walk_at "u"
    refine w_ixL (SqL.of hs) rfl ?_
    walk_at "u"
    refine w_setL hs rfl ?_
    walk_at "u"
    refine w_ixL (SqL.of upd_same) rfl ?_
    walk_at "u"
    refine w_ixL (SqL.of upd_same) rfl ?_
    walk_at "u"
    refine w_mulI (.inl (by decide)) ?_
    walk_at "u"
    refine w_mulI (.inr (by decide)) ?_
    walk_at "u"
    refine w_modI (by decide) ?_
    walk_at "u"
    have m1 : ∀ x : Int, 0 ≤ x % 2147483629 ∧ x % 2147483629 < 2147483629 := fun x => ⟨Int.emod_nonneg _ (by decide), Int.emod_lt_of_pos _ (by decide)⟩
    have m2 : ∀ x : Int, 0 ≤ x % 2147483579 ∧ x % 2147483579 < 2147483579 := fun x => ⟨Int.emod_nonneg _ (by decide), Int.emod_lt_of_pos _ (by decide)⟩
    refine w_divI ⟨by decide, by decide⟩ ?_
    walk_at "u"
    refine w_mulI (.inl ⟨by have := m1 ((b + 7919 * (c + 1) + 13) * 48271); omega, by have := m1 ((b + 7919 * (c + 1) + 13) * 48271); omega⟩) ?_
    walk_at "u"
    refine w_modI (by decide) ?_
    walk_at "u"
    refine w_divI ⟨by decide, by decide⟩ ?_
    walk_at "u"
    refine w_mulI (.inl ?_) ?_
    · generalize (b + 7919 * (c + 1) + 13) * 48271 % 2147483629 * ((b + 7919 * (c + 1) + 13) * 48271 % 2147483629 / 1019 + 69621) = z
      have := m2 z
      omega
    walk_at "u"
    refine w_modI (by decide) ?_
    walk_at "u"
    refine w_divI ⟨by decide, by decide⟩ ?_
    walk_at "u"
    refine w_modI h0 ?_
    walk_at "u"
    exact k _ _ (Int.emod_nonneg _ (by omega)) (Int.emod_lt_of_pos _ h0) ⟨_, _, _, upd_same⟩ But.at_
theorem ok__law_draw (T : Txt G) : FnOk P w G.K G.mg base (L2.CX P w) 1 G.f__law_draw G.d__law_draw ["_law_source_here", "_law_many"] (sp__law_draw G) := by
  refine T.F__law_draw.okX sc__law_draw (fun _ _ _ _ h => h.1) (fun cdv A outer s H vs Q E hr h => ⟨t__law_draw G (fun cls d _ H => E cls d H), ?_, pure__law_draw T vs H Q E h⟩)
  have tk : Takes (cxOf (L2.CX P w) P w G.K G.mg base ["_law_source_here", "_law_many", "_law_mixed", "_law_digit"] "_law_draw" (defScope s__law_draw) G.f__law_draw cdv A outer s H E) (fun cls d _ H => E cls d H) := takes_of rfl rfl rfl rfl
  exact (pss_cons (ps_if (pt_cmpR o_gtI (pe_ix ix_list (pv 0) pe_int (fun _ _ => rfl)) pe_int (nomark _)) (pss_cons (ps_set (i := 3) sc__law_draw.nd rfl (by first | exact Or.inl rfl | exact Or.inr rfl) (pe_op o_modI (pe_callTy c_int (by rfl) T.n_int boot_int (pa_cons (pe_ix ix_list (pv 0) pe_int (fun _ _ => rfl)) pa_nil)) (pv 1)))
    (pss_cons (ps_asg (pe_op o_divI (pe_ix ix_list (pv 0) pe_int (fun _ _ => rfl)) (pv 1)) (pg_sub (pv 0) pe_int set_list))
    (pss_one (ps_ret (pv 3))))) pss_nil)
    (pss_cons (ps_asg (pe_op o_addI (pe_ix ix_list (pv 0) pe_int (fun _ _ => rfl)) pe_int) (pg_sub (pv 0) pe_int set_list))
    (pss_cons (ps_set (i := 2) sc__law_draw.nd rfl (by first | exact Or.inl rfl | exact Or.inr rfl) (pe_op o_modI (pe_callTy c_int (by rfl) T.n_int boot_int (pa_cons (pe_op o_mulI (pe_op o_addI (pe_op o_addI (pe_ix ix_list (pv 0) pe_int (fun _ _ => rfl)) (pe_op o_mulI pe_int (pe_ix ix_list (pv 0) pe_int (fun _ _ => rfl)))) pe_int) pe_int) pa_nil)) pe_int))
    (pss_cons (ps_set (i := 2) sc__law_draw.nd rfl (by first | exact Or.inl rfl | exact Or.inr rfl) (pe_op o_modI (pe_callTy c_int (by rfl) T.n_int boot_int (pa_cons (pe_op o_mulI (pv 2) (pe_op o_addI (pe_op o_divI (pv 2) pe_int) pe_int)) pa_nil)) pe_int))
    (pss_one (ps_ret (pe_op o_modI (pe_callTy c_int (by rfl) T.n_int boot_int (pa_cons (pe_op o_divI (pe_op o_modI (pe_callTy c_int (by rfl) T.n_int boot_int (pa_cons (pe_op o_mulI (pv 2) (pe_op o_addI (pe_op o_divI (pv 2) pe_int) pe_int)) pa_nil)) pe_int) pe_int) pa_nil)) (pv 1))))))))

def sp__law_pick (G : Gx) : Sp := fun vs H Q _ => vs.length = 2 ∧ ∃ (s b : Addr) (xs : List V), vs = [.ref s, .ref b] ∧ SrcAt H s ∧ H b = some (.lst xs) ∧ b ≠ s ∧ xs ≠ [] ∧ xs.length ≤ 1000 ∧ ∀ v H', v ∈ xs → SrcAt H' s → But s H H' → Q v H'
def t__law_pick (G : Gx) (W : WX) : TS :=
  tRet (tOp (rIxL G.K) (tVar 1) (tCall (sp__law_draw G) [] E0 (tCons (tVar 0) (tCons (tCB (rLen G.K) (tCons (tVar 1) tNil)) tNil))))
theorem pure__law_pick (T : Txt G) (vs : List V) (H : Hp) (Q : VK) (E : XK) (h : sp__law_pick G vs H Q E) : t__law_pick G (fun cls d _ H => E cls d H) { nx := fun _ H' => Q .non H', rt := Q } (start ["_law_source_here", "_law_some"] vs) H := by
  obtain ⟨_, s, b, xs, rfl, hs, hb, ne, n0, hl, k⟩ := h
  unfold t__law_pick
  walk_at "u"
  refine w_lenL (SqL.of hb) ?_
  walk_at "u"
  have hp : 0 < xs.length := List.length_pos_iff.mpr n0
  refine ⟨rfl, s, _, rfl, hs, by omega, by omega, fun r H1 r0 r1 s1 b1 => ?_⟩
  obtain ⟨j, rfl⟩ := Int.eq_ofNat_of_zero_le r0
  have hj : j < xs.length := by omega
  refine w_ixL (SqL.of (b1 _ _ hb ne)) (atI_nat (List.getElem?_eq_getElem hj)) ?_
  walk_at "u"
  exact k _ _ (List.getElem_mem hj) s1 b1
theorem ok__law_pick (T : Txt G) : FnOk P w G.K G.mg base (L2.CX P w) 2 G.f__law_pick G.d__law_pick ["_law_source_here", "_law_some"] (sp__law_pick G) := by
  refine T.F__law_pick.okX sc__law_pick (fun _ _ _ _ h => h.1) (fun cdv A outer s H vs Q E hr h => ⟨t__law_pick G (fun cls d _ H => E cls d H), ?_, pure__law_pick T vs H Q E h⟩)
  have tk : Takes (cxOf (L2.CX P w) P w G.K G.mg base ["_law_source_here", "_law_some"] "_law_pick" (defScope s__law_pick) G.f__law_pick cdv A outer s H E) (fun cls d _ H => E cls d H) := takes_of rfl rfl rfl rfl
  exact (pss_one (ps_ret (pe_ix ix_list (pv 1) (pe_call (ok__law_draw T) (hr.mono (by decide)) rfl T.g__law_draw T.F__law_draw.kp T.b__law_draw .nil passL (pa_cons (pv 0) (pa_cons (pe_callB c_len (by rfl) T.n_len PySem.boot_len (pa_cons (pv 1) pa_nil)) pa_nil))) (fun _ _ => rfl))))

/-! the moods -/
def moodS : Mood → Str
  | .begin => "begin"
  | .one => "one"
  | .factor => "factor"
theorem mood_b (m : Mood) : decide (V.str (moodS m) = V.str "begin") = decide (m = .begin) := by cases m <;> decide +kernel
theorem mood_f (m : Mood) : decide (V.str (moodS m) = V.str "factor") = decide (m = .factor) := by cases m <;> decide +kernel
theorem e_1 : ("1" : Str) = S [49] := by decide +kernel
theorem sg_dec (c d : Nat) : decide (V.str (S [c]) = V.str (S [d])) = decide (c = d) := by
  rw [S_dec]
  simp
theorem inV_sg (c : Nat) (l : List Nat) : inV (.str (S [c])) (l.map fun d => .str (S [d])) = decide (c ∈ l) := by
  induction l with
  | nil => rfl
  | cons d l ih =>
    have ih' : (l.map fun d => V.str (S [d])).any (fun y => eqV y (.str (S [c]))) = decide (c ∈ l) := ih
    show (eqV (.str (S [d])) (.str (S [c])) || (l.map fun d => V.str (S [d])).any fun y => eqV y (.str (S [c]))) = _
    have e : eqV (.str (S [d])) (.str (S [c])) = decide (c = d) := by
      show (S [d] == S [c]) = _
      by_cases h : c = d
      · subst h; simp
      · rw [decide_eq_false h]
        simpa using fun q => h (by have := S_inj q; simpa using this.symm)
    rw [e, ih', ← Bool.decide_or]
    congr 1
    simp
def sp__law_is_open (G : Gx) : Sp := fun vs H Q _ => vs.length = 4 ∧ ∃ (m : Mood) (c d : Nat) (s : Bool), vs = [.str (moodS m), .str (S [c]), .int d, .bl s] ∧ ∀ H', Same H H' → Q (.bl (isOpen m c d s)) H'
def t__law_is_open (G : Gx) (W : WX) : TS :=
  tSeq (tIfS (tTest (tOp rEq (tVar 0) (tC (.str "begin")))) (tRet (tOp (rIn G.K false) (tVar 1) (tTup (tCons (tC (.str "1")) (tCons (tC (.str "w")) (tCons (tC (.str "x")) (tCons (tC (.str "y")) (tCons (tC (.str "z")) (tCons (tC (.str "(")) tNil))))))))) tNext)
  (tSeq (tIfS (tTest (tOp rEq (tVar 1) (tC (.str ")")))) (tRet (tOp rGtI (tVar 2) (tC (.int 0)))) tNext)
  (tSeq (tIfS (tTest (tOp rEq (tVar 1) (tC (.str "=")))) (tRet (tAndV (tOp rEq (tVar 2) (tC (.int 0))) (tNotV (tVar 3)))) tNext)
  (tRet (tAndV (tOp rEq (tVar 0) (tC (.str "factor"))) (tOp (rIn G.K false) (tVar 1) (tTup (tCons (tC (.str "w")) (tCons (tC (.str "x")) (tCons (tC (.str "y")) (tCons (tC (.str "z")) (tCons (tC (.str "(")) (tCons (tC (.str "^")) (tCons (tC (.str "~")) tNil)))))))))))))
theorem open1 : ([.str "1", .str "w", .str "x", .str "y", .str "z", .str "("] : List V) = ([49, 119, 120, 121, 122, 40] : List Nat).map fun d => .str (S [d]) := by decide +kernel
theorem open2 : ([.str "w", .str "x", .str "y", .str "z", .str "(", .str "^", .str "~"] : List V) = ([119, 120, 121, 122, 40, 94, 126] : List Nat).map fun d => .str (S [d]) := by decide +kernel
theorem flat_sg (l : List Nat) : (l.map fun d => V.str (S [d])).all flatV = true := by
  rw [List.all_map]
  exact List.all_eq_true.mpr fun _ _ => rfl
theorem pure__law_is_open (T : Txt G) (vs : List V) (H : Hp) (Q : VK) (E : XK) (h : sp__law_is_open G vs H Q E) : t__law_is_open G (fun cls d _ H => E cls d H) { nx := fun _ H' => Q .non H', rt := Q } (start ["_law_mood", "_law_sign", "_law_depth", "_law_is_second"] vs) H := by
  obtain ⟨_, m, c, d, s, rfl, k⟩ := h
  unfold t__law_is_open
  walk_at "u"
  rw [mood_b]
  refine w_ite (fun hm => ?_) fun hm => ?_
  · walk_at "u"
    refine ⟨by show 6 ≤ sizeLine; decide, fun p hp => ?_⟩
    refine w_inT (SqT.of upd_same) rfl (by rw [open1]; exact flat_sg _) ?_
    rw [if_neg Bool.false_ne_true, open1, inV_sg]
    have e : decide (c ∈ ([49, 119, 120, 121, 122, 40] : List Nat)) = isOpen m c d s := by
      subst hm
      simp only [isOpen, isFac, isName, if_true]
      rw [Bool.eq_iff_iff]
      simp [or_assoc]
    rw [e]
    exact k _ (same_new (Same.refl H) hp)
  · walk_at "u"
    rw [e_close, sg_dec]
    refine w_ite (fun hc => ?_) fun hc => ?_
    · walk_at "u"
      have e : decide ((0 : Int) < (d : Int)) = isOpen m c d s := by
        simp only [isOpen, if_neg hm, if_pos hc]
        exact decide_eq_decide.mpr (by omega)
      rw [e]
      exact k _ (Same.refl H)
    · walk_at "u"
      rw [e_eq, sg_dec]
      refine w_ite (fun hq => ?_) fun hq => ?_
      · walk_at "u"
        have e0 : decide (V.int (d : Int) = V.int 0) = (d == 0) := by
          rw [Bool.eq_iff_iff]
          simp
        have e : isOpen m c d s = ((d == 0) && !s) := by
          simp only [isOpen, if_neg hm, if_neg hc, if_pos hq]
        rw [e0]
        rw [e] at k
        cases hd : (d == 0) with
        | true =>
          refine iteT ?_
          walk_at "u"
          rw [hd] at k
          exact k _ (Same.refl H)
        | false =>
          refine iteF ?_
          rw [hd] at k
          exact k _ (Same.refl H)
      · walk_at "u"
        rw [mood_f]
        have e : isOpen m c d s = (decide (m = .factor) && (isFac c || isPow c)) := by
          simp only [isOpen, if_neg hm, if_neg hc, if_neg hq]
        rw [e] at k
        cases hf : decide (m = Mood.factor) with
        | true =>
          refine iteT ?_
          walk_at "u"
          refine ⟨by show 7 ≤ sizeLine; decide, fun p hp => ?_⟩
          refine w_inT (SqT.of upd_same) rfl (by rw [open2]; exact flat_sg _) ?_
          rw [if_neg Bool.false_ne_true, open2, inV_sg]
          rw [hf] at k
          have e2 : decide (c ∈ ([119, 120, 121, 122, 40, 94, 126] : List Nat)) = (true && (isFac c || isPow c)) := by
            rw [Bool.eq_iff_iff]
            simp [isFac, isName, isPow, or_assoc]
          rw [e2]
          exact k _ (same_new (Same.refl H) hp)
        | false =>
          refine iteF ?_
          rw [hf] at k
          exact k _ (Same.refl H)
theorem ok__law_is_open (T : Txt G) : FnOk P w G.K G.mg base (L2.CX P w) 1 G.f__law_is_open G.d__law_is_open ["_law_mood", "_law_sign", "_law_depth", "_law_is_second"] (sp__law_is_open G) := by
  refine T.F__law_is_open.okX sc__law_is_open (fun _ _ _ _ h => h.1) (fun cdv A outer s H vs Q E hr h => ⟨t__law_is_open G (fun cls d _ H => E cls d H), ?_, pure__law_is_open T vs H Q E h⟩)
  have tk : Takes (cxOf (L2.CX P w) P w G.K G.mg base ["_law_mood", "_law_sign", "_law_depth", "_law_is_second"] "_law_is_open" (defScope s__law_is_open) G.f__law_is_open cdv A outer s H E) (fun cls d _ H => E cls d H) := takes_of rfl rfl rfl rfl
  exact (pss_cons (ps_if (pt_cmpR op_eq (pv 0) pe_str (nomark _)) (pss_one (ps_ret (pe_cmpR op_in_seq (pv 1) (pe_tup (pa_cons pe_str (pa_cons pe_str (pa_cons pe_str (pa_cons pe_str (pa_cons pe_str (pa_cons pe_str pa_nil))))))) (by with_unfolding_all rfl)))) pss_nil)
    (pss_cons (ps_if (pt_cmpR op_eq (pv 1) pe_str (nomark _)) (pss_one (ps_ret (pe_cmpR o_gtI (pv 2) pe_int (nomark _)))) pss_nil)
    (pss_cons (ps_if (pt_cmpR op_eq (pv 1) pe_str (nomark _)) (pss_one (ps_ret (pe_and (pe_cmpR op_eq (pv 2) pe_int (nomark _)) (pe_one (pe_not (pv 3)))))) pss_nil)
    (pss_one (ps_ret (pe_and (pe_cmpR op_eq (pv 0) pe_str (nomark _)) (pe_one (pe_cmpR op_in_seq (pv 1) (pe_tup (pa_cons pe_str (pa_cons pe_str (pa_cons pe_str (pa_cons pe_str (pa_cons pe_str (pa_cons pe_str (pa_cons pe_str pa_nil)))))))) (by with_unfolding_all rfl)))))))))

end
end K81

set_option Elab.async false
set_option linter.all false
set_option maxRecDepth 100000
set_option maxHeartbeats 4000000
namespace K81
open PySem PySem.Spec PyProof.Rows L2 LX M81
local macro_rules | `(tactic| walk_at "hp") => `(tactic| first | assumption | exact upd_same | (refine up_new (by assumption) ?_; walk_at "hp") | (refine up_ne (by first | assumption | (exact Ne.symm (by assumption))) ?_; walk_at "hp") | (refine up_mut (by assumption) (by intro z; cases z) ?_; walk_at "hp"))
local macro_rules | `(tactic| walk_at "w1") => `(tactic| first
  | (with_reducible refine w_seq ?_) | (with_reducible refine w_asg ?_) | (with_reducible refine w_name ?_) | (with_reducible refine w_ret ?_) | (with_reducible refine w_drop ?_) | (with_reducible refine w_ifS ?_)
  | (with_reducible refine w_var (by with_unfolding_all exact rfl) ?_) | (with_reducible refine w_c ?_) | (with_reducible refine w_op ?_) | (with_reducible refine w_test ?_) | (with_reducible refine w_B ?_)
  | (with_reducible refine w_bl ?_) | (with_reducible refine w_cons ?_) | (with_reducible refine w_nil ?_) | (with_reducible refine w_cb ?_) | (with_reducible refine w_call ?_) | (with_reducible refine w_callS ?_)
  | (with_reducible refine w_addI ?_) | (with_reducible refine w_subI ?_) | (with_reducible refine w_ltI ?_) | (with_reducible refine w_leI ?_) | (with_reducible refine w_gtI ?_) | (with_reducible refine w_geI ?_)
  | (with_reducible refine w_tAnd ?_) | (with_reducible refine w_tOr ?_) | (with_reducible refine w_tNot ?_) | (with_reducible refine w_andV ?_) | (with_reducible refine w_orV ?_) | (with_reducible refine w_notV ?_) | (with_reducible refine w_if ?_)
  | (with_reducible refine w_un ?_) | (with_reducible refine w_neg ?_) | (with_reducible refine w_intI ?_) | (with_reducible refine w_intB ?_) | (with_reducible refine w_abs ?_)
  | (with_reducible refine w_eq (by with_unfolding_all exact rfl) ?_) | (with_reducible refine w_ne (by with_unfolding_all exact rfl) ?_) | (with_reducible refine w_isNone ?_) | (with_reducible refine w_notNone ?_)
  | (with_reducible refine w_tup ?_) | (with_reducible refine w_lst ?_) | (with_reducible refine w_sl ?_) | (with_reducible refine w_noPart ?_) | (with_reducible refine w_part ?_) | (with_reducible refine w_partI ?_)
  | (with_reducible refine w_fld0 ?_) | (with_reducible refine w_rz ?_)
  | (with_reducible refine w_next ?_) | (with_reducible refine w_brk ?_) | (with_reducible refine w_cont ?_) | (with_reducible refine w_retN ?_))
local macro_rules | `(tactic| walk_at "w") => `(tactic| repeat walk_at "w1")
local macro_rules | `(tactic| walk_at "u1") => `(tactic| first | walk_at "w1" | (with_reducible refine w_gsub ?_) | (with_reducible refine w_par ?_) | (with_reducible refine w_par3 ?_) | (with_reducible refine w_pr2 ?_) | (with_reducible refine w_pr3 ?_) | (with_reducible refine w_then ?_) | (with_reducible refine w_for ?_) | (with_reducible refine w_rng1 ?_) | (with_reducible refine w_enumS ?_) | (with_reducible refine w_iList ?_) | (with_reducible refine w_iTup ?_) | (with_reducible refine w_iStr ?_) | (with_reducible refine w_make ?_))
local macro_rules | `(tactic| walk_at "u") => `(tactic| repeat walk_at "u1")
section
variable {P : Program} {w : World} {base : Heap} {G : Gx}
/-! drawn terms -/
theorem SrcAt.new {H : Hp} {s p : Addr} {o : HO} (h : SrcAt H s) (hp : H p = none) : SrcAt (upd H p o) s := by
  obtain ⟨a, b, c, e⟩ := h
  exact ⟨a, b, c, up_new hp e⟩
theorem SrcAt.ne {H : Hp} {s p : Addr} (h : SrcAt H s) (hp : H p = none) : p ≠ s := by
  obtain ⟨a, b, c, e⟩ := h
  exact (ne_of_none e hp).symm
theorem r_draw {σ : L2.St} {H : Hp} {Q : VK} {s : Addr} {n : Int} {ta : TE} {i : Nat} (h0 : σ[i]? = some (some (.ref s))) (hs : SrcAt H s) (hn : 0 < n) (hm : n < 1073741824)
    (k : ∀ r H', 0 ≤ r → r < n → SrcAt H' s → But s H H' → Q (.int r) H') : sp__law_draw G ([.ref s, .int n] ++ []) H Q E0 := ⟨rfl, s, n, rfl, hs, hn, hm, k⟩
theorem r_pick {H : Hp} {Q : VK} {E : XK} {s b : Addr} {xs : List V} (hs : SrcAt H s) (hb : H b = some (.lst xs)) (ne : b ≠ s) (n0 : xs ≠ []) (hl : xs.length ≤ 1000)
    (k : ∀ v H', v ∈ xs → SrcAt H' s → But s H H' → Q v H') : sp__law_pick G [.ref s, .ref b] H Q E := ⟨rfl, s, b, xs, rfl, hs, hb, ne, n0, hl, k⟩
def sp__law_term (G : Gx) (n : Nat) : Sp := fun vs H Q _ => vs.length = 2 ∧ ∃ s : Addr, vs = [.ref s, .int n] ∧ SrcAt H s ∧ ∀ (U : List Nat) H', GoodT U → U.length + 8 ≤ 20 * 3 ^ n → SrcAt H' s → But s H H' → Q (.str (S U)) H'
def spd__law_term (G : Gx) (d : Nat) : Sp := fun vs H Q E => vs.length = 2 ∧ ∃ n, n < d ∧ sp__law_term G n vs H Q E
def t__law_term (G : Gx) (d : Nat) (W : WX) : TS :=
  tSeq (tIfS (tTest (tOp rEq (tCall (sp__law_draw G) [] E0 (tCons (tVar 0) (tCons (tC (.int 6)) tNil))) (tC (.int 0)))) (tRet (tC (.str "1"))) tNext)
  (tSeq (tAsg (tC (.str "")) (gName 2))
  (tSeq (tFor (iRng1 (tCons (tOp rAddI (tC (.int 1)) (tCall (sp__law_draw G) [] E0 (tCons (tVar 0) (tCons (tC (.int 3)) tNil)))) tNil)) (gName 3) (tSeq (tAsg (tCall (sp__law_pick G) [] E0 (tCons (tVar 0) (tCons (tLst (tCons (tC (.str "w")) (tCons (tC (.str "x")) (tCons (tC (.str "y")) (tCons (tC (.str "z")) tNil))))) tNil))) (gName 4))
  (tSeq (tIfS (tAnd (tTest (tOp rGtI (tVar 1) (tC (.int 0)))) (tTest (tOp rEq (tCall (sp__law_draw G) [] E0 (tCons (tVar 0) (tCons (tC (.int 3)) tNil))) (tC (.int 0))))) (tAsg (tOp rAddS (tOp rAddS (tC (.str "(")) (tCall (spd__law_term G d) [] E0 (tCons (tVar 0) (tCons (tOp rSubI (tVar 1) (tC (.int 1))) tNil)))) (tC (.str ")"))) (gName 4)) tNext)
  (tAsg (tOp rAddS (tOp rAddS (tVar 2) (tVar 4)) (tCall (sp__law_pick G) [] E0 (tCons (tVar 0) (tCons (tLst (tCons (tC (.str "")) (tCons (tC (.str "")) (tCons (tC (.str "^")) (tCons (tC (.str "~")) (tCons (tC (.str "^^")) (tCons (tC (.str "~^~")) tNil))))))) tNil)))) (gName 2)))))
  (tRet (tVar 2))))
theorem pick_name {v : V} (h : v ∈ ([.str "w", .str "x", .str "y", .str "z"] : List V)) : ∃ c, isName c = true ∧ v = .str (S [c]) := by
  have e : ([.str "w", .str "x", .str "y", .str "z"] : List V) = ([119, 120, 121, 122] : List Nat).map fun d => .str (S [d]) := by decide +kernel
  rw [e] at h
  obtain ⟨c, hc, rfl⟩ := List.mem_map.mp h
  refine ⟨c, ?_, rfl⟩
  have : ∀ c ∈ ([119, 120, 121, 122] : List Nat), isName c = true := by decide
  exact this c hc
theorem pick_pow {v : V} (h : v ∈ ([.str "", .str "", .str "^", .str "~", .str "^^", .str "~^~"] : List V)) : ∃ U : List Nat, (∀ c ∈ U, isPow c = true) ∧ U.length ≤ 3 ∧ v = .str (S U) := by
  have e : ([.str "", .str "", .str "^", .str "~", .str "^^", .str "~^~"] : List V) = ([[], [], [94], [126], [94, 94], [126, 94, 126]] : List (List Nat)).map fun d => .str (S d) := by decide +kernel
  rw [e] at h
  obtain ⟨c, hc, rfl⟩ := List.mem_map.mp h
  have : ∀ U ∈ ([[], [], [94], [126], [94, 94], [126, 94, 126]] : List (List Nat)), (∀ c ∈ U, isPow c = true) ∧ U.length ≤ 3 := by decide
  exact ⟨c, (this c hc).1, (this c hc).2, rfl⟩
/-- what one turn adds at most -/
theorem turn_len (n : Nat) : ∃ B : Nat, 3 * B + 8 ≤ 20 * 3 ^ n ∧ 4 ≤ B ∧ ∀ m, n = m + 1 → ∀ l, l + 8 ≤ 20 * 3 ^ m → l + 5 ≤ B := by
  cases n with
  | zero => exact ⟨4, by decide, by decide, fun m e => by omega⟩
  | succ m =>
    have h : 0 < 3 ^ m := Nat.pow_pos (by decide)
    have e : 3 ^ (m + 1) = 3 * 3 ^ m := Nat.pow_succ'
    refine ⟨20 * 3 ^ m - 3, by omega, by omega, fun m' e' l hl => ?_⟩
    obtain rfl : m = m' := by omega
    omega
def TermInv (H0 : Hp) (s : Addr) (n B i : Nat) (σ : L2.St) (H : Hp) : Prop := ∃ (U : List Nat) (t o : Option V), σ = [some (.ref s), some (.int n), some (.str (S U)), t, o] ∧ (i = 0 → U = []) ∧ (0 < i → GoodF U) ∧ U.length ≤ i * B ∧ SrcAt H s ∧ But s H0 H
theorem add3 {U V W : List Nat} : S U ++ S V ++ S W = S (U ++ V ++ W) := by rw [S_app, S_app]
theorem pure__law_term (T : Txt G) (d : Nat) (hd : d < 8) (vs : List V) (H : Hp) (Q : VK) (E : XK) (h : spd__law_term G (d + 1) vs H Q E) : t__law_term G d (fun cls d _ H => E cls d H) { nx := fun _ H' => Q .non H', rt := Q } (start ["_law_source_here", "_law_deep", "_law_found", "_law_turn", "_law_one"] vs) H := by
  obtain ⟨_, n, hn, _, s, rfl, hs, k⟩ := h
  have p3 : 0 < 3 ^ n := Nat.pow_pos (by decide)
  have p8 : 3 ^ n ≤ 3 ^ 8 := Nat.pow_le_pow_right (by decide) (by omega)
  unfold t__law_term
  walk_at "u"
  refine ⟨rfl, s, _, rfl, hs, by decide, by decide, fun r H1 r0 r1 s1 b1 => ?_⟩
  walk_at "u"
  refine w_ite (fun _ => ?_) fun _ => ?_
  · walk_at "u"
    rw [e_1]
    exact k _ _ goodT_one (by show 1 + 8 ≤ _; omega) s1 b1
  walk_at "u"
  refine ⟨rfl, s, _, rfl, s1, by decide, by decide, fun r2 H2 q0 q1 s2 b2 => ?_⟩
  walk_at "u"
  refine ⟨_, rfl, by omega, by omega, ?_⟩
  obtain ⟨B, hB, h4, hm⟩ := turn_len n
  have b2' : But s H H2 := b1.trans b2
  refine for_fix (fix_rng 0 (1 + r2).toNat) (TermInv H s n B) ⟨[], _, _, rfl, fun _ => rfl, fun h => absurd h (by decide), by simp, s2, b2'⟩ (fun i σ Ha hi hinv => ?_) (fun σ Ha hinv => ?_)
  rotate_left
  · obtain ⟨U, t, o, rfl, i0, i1, hl, sa, ba⟩ := hinv
    walk_at "u"
    have h3 : (1 + r2).toNat ≤ 3 := by omega
    have : (1 + r2).toNat * B ≤ 3 * B := Nat.mul_le_mul_right B h3
    exact k _ _ (i1 (by omega)).t (by omega) sa ba
  obtain ⟨U, t, o, rfl, i0, i1, hl, sa, ba⟩ := hinv
  have hi3 : i < 3 := by omega
  have hU : U.length ≤ 3 * B := Nat.le_trans hl (Nat.mul_le_mul_right B (by omega))
  walk_at "u"
  refine ⟨by show 4 ≤ sizeLine; decide, fun p hp => ?_⟩
  walk_at "u"
  refine r_pick (sa.new hp) upd_same (sa.ne hp) (by simp) (by show 4 ≤ 1000; decide) fun v Hb hv sb bb => ?_
  have bb' : But s H Hb := fun b o hb nb => bb b o (up_new hp (ba b o hb nb)) nb
  obtain ⟨c, hc, rfl⟩ := pick_name hv
  -- the second pick and the sum
  have tail : ∀ (one : List Nat) (Hc : Hp), SrcAt Hc s → But s H Hc → GoodF one → one.length + 3 ≤ B →
      (tAsg (tOp rAddS (tOp rAddS (tVar 2) (tVar 4)) (tCall (sp__law_pick G) [] E0 (tCons (tVar 0) (tCons (tLst (tCons (tC (.str "")) (tCons (tC (.str "")) (tCons (tC (.str "^")) (tCons (tC (.str "~")) (tCons (tC (.str "^^")) (tCons (tC (.str "~^~")) tNil))))))) tNil)))) (gName 2))
        { nx := TermInv H s n B (i + 1), rt := Q, bk := fun σ H => tRet (tVar 2) { nx := fun _ H' => Q .non H', rt := Q } σ H, ct := TermInv H s n B (i + 1) } [some (.ref s), some (.int n), some (.str (S U)), some (.int (0 + (i : Nat))), some (.str (S one))] Hc := by
    intro one Hc sc bc go lo
    walk_at "u"
    refine w_addS (line1000 (by rw [S_len, S_len]; omega)) ?_
    walk_at "u"
    refine ⟨by show 6 ≤ sizeLine; decide, fun p hp => ?_⟩
    walk_at "u"
    refine r_pick (sc.new hp) upd_same (sc.ne hp) (by simp) (by show 6 ≤ 1000; decide) fun v Hd hv sd bd => ?_
    obtain ⟨W, hW, lW, rfl⟩ := pick_pow hv
    rw [S_app]
    refine w_addS (line1000 (by rw [S_len, S_len, List.length_append]; omega)) ?_
    walk_at "u"
    rw [S_app]
    refine ⟨U ++ one ++ W, _, _, rfl, fun h => by omega, fun _ => ?_, ?_, sd, fun b o hb nb => bd b o (up_new hp (bc b o hb nb)) nb⟩
    · rw [List.append_assoc]
      by_cases h0 : i = 0
      · rw [i0 h0, List.nil_append]
        exact goodF_pow go hW
      · exact goodF_app (i1 (by omega)) (goodF_pow go hW)
    · rw [List.length_append, List.length_append, Nat.add_mul]
      omega
  walk_at "u"
  refine w_ite (fun hpos => ?_) fun _ => ?_
  · walk_at "u"
    refine ⟨rfl, s, _, rfl, sb, by decide, by decide, fun r3 Hc _ _ sc bc => ?_⟩
    walk_at "u"
    refine w_ite (fun _ => ?_) fun _ => ?_
    · obtain ⟨m, rfl⟩ : ∃ m, n = m + 1 := ⟨n - 1, by omega⟩
      walk_at "u"
      have em : ((m + 1 : Nat) : Int) - 1 = (m : Nat) := by omega
      rw [em]
      refine ⟨rfl, m, by omega, rfl, s, rfl, sc, fun U2 Hd gU lU sd bd => ?_⟩
      walk_at "u"
      have lU2 : U2.length + 5 ≤ B := hm m rfl _ lU
      rw [e_open]
      refine w_addS (line1000 (by rw [S_len, S_len]; show 1 + _ ≤ _; omega)) ?_
      rw [S_app]
      refine w_c ?_
      rw [e_close]
      refine w_addS (line1000 (by rw [S_len, S_len, List.length_append]; show 1 + _ + 1 ≤ _; omega)) ?_
      rw [S_app]
      refine w_name ?_
      exact tail ([40] ++ U2 ++ [41]) _ sd ((bb'.trans bc).trans bd) (goodF_paren gU) (by simp only [List.length_cons, List.length_append, List.length_nil]; omega)
    · exact tail _ _ sc (bb'.trans bc) (goodF_name hc) h4
  · exact tail _ _ sb bb' (goodF_name hc) h4
theorem ok__law_term (T : Txt G) : ∀ d : Nat, d ≤ 8 → FnOk P w G.K G.mg base (L2.CX P w) (d + 2) G.f__law_term G.d__law_term ["_law_source_here", "_law_deep"] (spd__law_term G d) := by
  intro d
  induction d with
  | zero => exact fun _ => T.F__law_term.okX sc__law_term (fun _ _ _ _ h => h.1) (fun cdv A outer s H vs Q E hr h => by obtain ⟨_, n, hn, _⟩ := h; omega)
  | succ d ih =>
    intro hd
    have IH := ih (by omega)
    refine T.F__law_term.okX sc__law_term (fun _ _ _ _ h => h.1) (fun cdv A outer s H vs Q E hr h => ⟨t__law_term G d (fun cls d _ H => E cls d H), ?_, pure__law_term T d (by omega) vs H Q E h⟩)
    exact (pss_cons (ps_if (pt_cmpR op_eq (pe_call (ok__law_draw T) (hr.mono (by omega)) rfl T.g__law_draw T.F__law_draw.kp T.b__law_draw .nil passL (pa_cons (pv 0) (pa_cons pe_int pa_nil))) pe_int (nomark _)) (pss_one (ps_ret pe_str)) pss_nil)
    (pss_cons (ps_set (i := 2) sc__law_term.nd rfl (by first | exact Or.inl rfl | exact Or.inr rfl) pe_str)
    (pss_cons (ps_for (passes_of rfl) rfl (pi_range1 rfl T.n_range (pa_cons (pe_op o_addI pe_int (pe_call (ok__law_draw T) (hr.mono (by omega)) rfl T.g__law_draw T.F__law_draw.kp T.b__law_draw .nil passL (pa_cons (pv 0) (pa_cons pe_int pa_nil)))) pa_nil)) (pg_name (i := 3) sc__law_term.nd rfl (by first | exact Or.inl rfl | exact Or.inr rfl)) (pss_cons (ps_set (i := 4) sc__law_term.nd rfl (by first | exact Or.inl rfl | exact Or.inr rfl) (pe_call (ok__law_pick T) (hr.mono (by omega)) rfl T.g__law_pick T.F__law_pick.kp T.b__law_pick .nil passL (pa_cons (pv 0) (pa_cons (pe_lst (pa_cons pe_str (pa_cons pe_str (pa_cons pe_str (pa_cons pe_str pa_nil))))) pa_nil))))
    (pss_cons (ps_if (PW.pt (pw_and (pt_cmpR o_gtI (pv 1) pe_int (nomark _)) (pw_and1 (pt_cmpR op_eq (pe_call (ok__law_draw T) (hr.mono (by omega)) rfl T.g__law_draw T.F__law_draw.kp T.b__law_draw .nil passL (pa_cons (pv 0) (pa_cons pe_int pa_nil))) pe_int (nomark _))))) (pss_one (ps_set (i := 4) sc__law_term.nd rfl (by first | exact Or.inl rfl | exact Or.inr rfl) (pe_op o_addS (pe_op o_addS pe_str (pe_call IH hr rfl T.g__law_term T.F__law_term.kp T.b__law_term .nil passL (pa_cons (pv 0) (pa_cons (pe_op o_subI (pv 1) pe_int) pa_nil)))) pe_str))) pss_nil)
    (pss_one (ps_set (i := 2) sc__law_term.nd rfl (by first | exact Or.inl rfl | exact Or.inr rfl) (pe_op o_addS (pe_op o_addS (pv 2) (pv 4)) (pe_call (ok__law_pick T) (hr.mono (by omega)) rfl T.g__law_pick T.F__law_pick.kp T.b__law_pick .nil passL (pa_cons (pv 0) (pa_cons (pe_lst (pa_cons pe_str (pa_cons pe_str (pa_cons pe_str (pa_cons pe_str (pa_cons pe_str (pa_cons pe_str pa_nil))))))) pa_nil)))))))))
    (pss_one (ps_ret (pv 2))))))

end
end K81

set_option Elab.async false
set_option linter.all false
set_option maxRecDepth 100000
set_option maxHeartbeats 4000000
namespace K81
open PySem PySem.Spec PyProof.Rows L2 LX M81
local macro_rules | `(tactic| walk_at "hp") => `(tactic| first | assumption | exact upd_same | (refine up_new (by assumption) ?_; walk_at "hp") | (refine up_ne (by first | assumption | (exact Ne.symm (by assumption))) ?_; walk_at "hp") | (refine up_mut (by assumption) (by intro z; cases z) ?_; walk_at "hp"))
local macro_rules | `(tactic| walk_at "w1") => `(tactic| first
  | (with_reducible refine w_seq ?_) | (with_reducible refine w_asg ?_) | (with_reducible refine w_name ?_) | (with_reducible refine w_ret ?_) | (with_reducible refine w_drop ?_) | (with_reducible refine w_ifS ?_)
  | (with_reducible refine w_var (by with_unfolding_all exact rfl) ?_) | (with_reducible refine w_c ?_) | (with_reducible refine w_op ?_) | (with_reducible refine w_test ?_) | (with_reducible refine w_B ?_)
  | (with_reducible refine w_bl ?_) | (with_reducible refine w_cons ?_) | (with_reducible refine w_nil ?_) | (with_reducible refine w_cb ?_) | (with_reducible refine w_call ?_) | (with_reducible refine w_callS ?_)
  | (with_reducible refine w_addI ?_) | (with_reducible refine w_subI ?_) | (with_reducible refine w_ltI ?_) | (with_reducible refine w_leI ?_) | (with_reducible refine w_gtI ?_) | (with_reducible refine w_geI ?_)
  | (with_reducible refine w_tAnd ?_) | (with_reducible refine w_tOr ?_) | (with_reducible refine w_tNot ?_) | (with_reducible refine w_andV ?_) | (with_reducible refine w_orV ?_) | (with_reducible refine w_notV ?_) | (with_reducible refine w_if ?_)
  | (with_reducible refine w_un ?_) | (with_reducible refine w_neg ?_) | (with_reducible refine w_intI ?_) | (with_reducible refine w_intB ?_) | (with_reducible refine w_abs ?_)
  | (with_reducible refine w_eq (by with_unfolding_all exact rfl) ?_) | (with_reducible refine w_ne (by with_unfolding_all exact rfl) ?_) | (with_reducible refine w_isNone ?_) | (with_reducible refine w_notNone ?_)
  | (with_reducible refine w_tup ?_) | (with_reducible refine w_lst ?_) | (with_reducible refine w_sl ?_) | (with_reducible refine w_noPart ?_) | (with_reducible refine w_part ?_) | (with_reducible refine w_partI ?_)
  | (with_reducible refine w_fld0 ?_) | (with_reducible refine w_rz ?_)
  | (with_reducible refine w_next ?_) | (with_reducible refine w_brk ?_) | (with_reducible refine w_cont ?_) | (with_reducible refine w_retN ?_))
local macro_rules | `(tactic| walk_at "w") => `(tactic| repeat walk_at "w1")
local macro_rules | `(tactic| walk_at "u1") => `(tactic| first | walk_at "w1" | (with_reducible refine w_gsub ?_) | (with_reducible refine w_par ?_) | (with_reducible refine w_par3 ?_) | (with_reducible refine w_pr2 ?_) | (with_reducible refine w_pr3 ?_) | (with_reducible refine w_then ?_) | (with_reducible refine w_for ?_) | (with_reducible refine w_rng1 ?_) | (with_reducible refine w_enumS ?_) | (with_reducible refine w_iList ?_) | (with_reducible refine w_iTup ?_) | (with_reducible refine w_iStr ?_) | (with_reducible refine w_make ?_))
local macro_rules | `(tactic| walk_at "u") => `(tactic| repeat walk_at "u1")
section
variable {P : Program} {w : World} {base : Heap} {G : Gx}
/-! the fault of a text -/
def faultV (l : List Nat) : V := match fault l .begin 0 false with
  | none => .non
  | some q => .int ((l.length - q.length : Nat) : Int)
def sp__law_fault (G : Gx) : Sp := fun vs H Q _ => vs.length = 1 ∧ ∃ l, vs = [.str (S l)] ∧ l.length ≤ 16000000 ∧ ∀ H', Same H H' → Q (faultV l) H'
def t__law_fault (G : Gx) (W : WX) : TS :=
  tSeq (tAsg (tTup (tCons (tC (.str "begin")) (tCons (tC (.int 0)) (tCons (tC (.bl false)) tNil)))) (gTup G.K 3 (gCons (gName 2) (gCons (gName 3) (gCons (gName 4) gNil)))))
  (tSeq (tFor (iEnumS (tCons (tVar 0) tNil)) (gTup G.K 2 (gCons (gName 5) (gCons (gName 6) gNil))) (tSeq (tIfS (tNot (tB (tCall (sp__law_is_open G) [] E0 (tCons (tVar 2) (tCons (tVar 6) (tCons (tVar 3) (tCons (tVar 4) tNil))))))) (tRet (tVar 5)) tNext)
  (tIfS (tTest (tOp rEq (tVar 6) (tC (.str "(")))) (tPar 2 3 (tCons (tC (.str "begin")) (tCons (tOp rAddI (tVar 3) (tC (.int 1))) tNil))) (tIfS (tTest (tOp rEq (tVar 6) (tC (.str "=")))) (tAsg (tTup (tCons (tC (.str "begin")) (tCons (tC (.bl true)) tNil))) (gTup G.K 2 (gCons (gName 2) (gCons (gName 4) gNil)))) (tIfS (tTest (tOp rEq (tVar 6) (tC (.str ")")))) (tPar 2 3 (tCons (tC (.str "factor")) (tCons (tOp rSubI (tVar 3) (tC (.int 1))) tNil))) (tIfS (tTest (tOp rEq (tVar 2) (tC (.str "begin")))) (tAsg (tIf (tTest (tOp rEq (tVar 6) (tC (.str "1")))) (tC (.str "one")) (tC (.str "factor"))) (gName 2)) (tIfS (tTest (tOp rInG (tVar 6) (tC (.str "wxyz")))) (tAsg (tC (.str "factor")) (gName 2)) tNext)))))))
  (tSeq (tAsg (tAndV (tVar 4) (tAndV (tOp rEq (tVar 3) (tC (.int 0))) (tOp rNe (tVar 2) (tC (.str "begin"))))) (gName 1))
  (tRet (tIf (tB (tVar 1)) (tC .non) (tCB (rLen G.K) (tCons (tVar 0) tNil))))))
def FaultInv (H0 : Hp) (l : List Nat) (i : Nat) (σ : L2.St) (H : Hp) : Prop := ∃ (m : Mood) (d : Nat) (s : Bool) (w p g : Option V), σ = [some (.str (S l)), w, some (.str (moodS m)), some (.int d), some (.bl s), p, g] ∧ fault l .begin 0 false = fault (l.drop i) m d s ∧ Same H0 H
theorem e_moodb : ("begin" : Str) = moodS .begin := rfl
theorem e_moodf : ("factor" : Str) = moodS .factor := rfl
theorem e_mood1 : ("one" : Str) = moodS .one := rfl
theorem pure__law_fault (T : Txt G) (vs : List V) (H : Hp) (Q : VK) (E : XK) (h : sp__law_fault G vs H Q E) : t__law_fault G (fun cls d _ H => E cls d H) { nx := fun _ H' => Q .non H', rt := Q } (start ["_law_text", "_law_is_whole", "_law_mood", "_law_depth", "_law_is_second", "_law_place", "_law_sign"] vs) H := by
  obtain ⟨_, l, rfl, hl, k⟩ := h
  unfold t__law_fault
  walk_at "u"
  refine ⟨by show 3 ≤ sizeLine; decide, fun p0 hp0 => w_gT3 upd_same ?_⟩
  walk_at "u"
  refine ⟨_, rfl, ?_⟩
  have el : (S l).cps.size = l.length := S_len l
  rw [el]
  refine for_itn (FaultInv H l) ⟨.begin, 0, false, _, _, _, rfl, rfl, same_new (Same.refl H) hp0⟩ (fun i σ Ha p hi hinv hp => ?_) (fun σ Ha hinv => ?_)
  · obtain ⟨m, d, s, w, pl, g, rfl, hf, sa⟩ := hinv
    have hc : ∃ c, (S l).cps.getD i 0 = c ∧ l.drop i = c :: l.drop (i + 1) := by
      refine ⟨_, rfl, ?_⟩
      rw [List.drop_eq_getElem_cons hi]
      congr 1
      show _ = l.toArray.getD i 0
      rw [Array.getD_eq_getD_getElem?]
      simp [hi]
    obtain ⟨c, hc, ed⟩ := hc
    rw [hc]
    have es : sign c = S [c] := rfl
    rw [es]
    have sa' : ∀ o, Same H (upd Ha p o) := fun o => same_new sa hp
    rw [ed] at hf
    refine ⟨p, _, rfl, SqT.of upd_same, rfl, ?_⟩
    refine ⟨_, _, rfl, ?_⟩
    walk_at "u"
    refine ⟨_, _, rfl, ?_⟩
    walk_at "u"
    refine ⟨rfl, ?_⟩
    walk_at "u"
    refine ⟨rfl, m, c, d, s, rfl, fun Hb sb => ?_⟩
    have sb' : Same H Hb := (sa' _).trans sb
    refine ⟨_, rfl, ?_⟩
    cases ho : isOpen m c d s with
    | false =>
      refine iteT ?_
      walk_at "u"
      have e : (V.int (i : Nat)) = faultV l := by
        unfold faultV
        rw [hf, fault_stop ho]
        show V.int (i : Nat) = V.int ((l.length - (c :: l.drop (i + 1)).length : Nat) : Int)
        rw [← ed, List.length_drop]
        congr 1
        omega
      rw [e]
      exact k _ sb'
    | true =>
      refine iteF ?_
      walk_at "u"
      rw [fault_cons ho] at hf
      have nxt : ∀ (m' : Mood) (d' : Nat) (s' : Bool) (w p g : Option V) Hc, m' = stepM m c → d' = stepD d c → s' = stepS s c → Same H Hc → FaultInv H l (i + 1) [some (.str (S l)), w, some (.str (moodS m')), some (.int d'), some (.bl s'), p, g] Hc :=
        fun m' d' s' w p g Hc e1 e2 e3 sc => ⟨m', d', s', w, p, g, rfl, by rw [e1, e2, e3]; exact hf, sc⟩
      rw [e_open, sg_dec]
      refine w_ite (fun h1 => ?_) fun h1 => ?_
      · walk_at "u"
        have e : ((d : Int) + 1) = ((d + 1 : Nat) : Int) := by omega
        rw [e]
        exact nxt .begin (d + 1) s _ _ _ _ (by simp only [stepM, if_pos h1]) (by simp only [stepD, if_pos h1]) (by simp only [stepS, if_pos h1]) sb'
      walk_at "u"
      rw [e_eq, sg_dec]
      refine w_ite (fun h2 => ?_) fun h2 => ?_
      · walk_at "u"
        refine ⟨by show 2 ≤ sizeLine; decide, fun p0 hp0 => w_gT2 upd_same ?_⟩
        exact nxt .begin d true _ _ _ _ (by simp only [stepM, if_neg h1, if_pos h2]) (by simp only [stepD, if_neg h1, if_pos h2]) (by simp only [stepS, if_neg h1, if_pos h2]) (same_new sb' hp0)
      walk_at "u"
      rw [e_close, sg_dec]
      have e3 : s = stepS s c := by simp only [stepS, if_neg h1, if_neg h2]
      refine w_ite (fun h3 => ?_) fun h3 => ?_
      · walk_at "u"
        have hd : ((d : Int) - 1) = ((d - 1 : Nat) : Int) := by
          have : 0 < d := by
            subst h3
            cases m with
            | begin => exact absurd ho (by simp [isOpen, isFac, isName])
            | one => simpa [isOpen] using ho
            | factor => simpa [isOpen] using ho
          omega
        rw [hd]
        exact nxt .factor (d - 1) s _ _ _ _ (by simp only [stepM, if_neg h1, if_neg h2, if_pos h3]) (by simp only [stepD, if_neg h1, if_neg h2, if_pos h3]) e3 sb'
      have e2 : d = stepD d c := by simp only [stepD, if_neg h1, if_neg h2, if_neg h3]
      walk_at "u"
      rw [mood_b]
      refine w_ite (fun h4 => ?_) fun h4 => ?_
      · walk_at "u"
        rw [e_1, sg_dec]
        refine w_ite (fun h5 => ?_) fun h5 => ?_
        · walk_at "u"
          exact nxt .one d s _ _ _ _ (by simp only [stepM, if_neg h1, if_neg h2, if_neg h3, if_pos h4, if_pos h5]) e2 e3 sb'
        · walk_at "u"
          exact nxt .factor d s _ _ _ _ (by simp only [stepM, if_neg h1, if_neg h2, if_neg h3, if_pos h4, if_neg h5]) e2 e3 sb'
      · walk_at "u"
        refine ⟨c, _, rfl, rfl, ?_⟩
        walk_at "u"
        have en : decide (c ∈ ("wxyz" : Str).cps.toList) = isName c := by
          rw [e_names, S_cps, Bool.eq_iff_iff]
          simp [nameCodes, isName, or_assoc]
        rw [en]
        refine w_iteB (fun h5 => ?_) fun h5 => ?_
        · walk_at "u"
          exact nxt .factor d s _ _ _ _ (by simp only [stepM, if_neg h1, if_neg h2, if_neg h3, if_neg h4, h5, if_true]) e2 e3 sb'
        · walk_at "u"
          exact nxt m d s _ _ _ _ (by simp only [stepM, if_neg h1, if_neg h2, if_neg h3, if_neg h4, h5]; rfl) e2 e3 sb'
  · obtain ⟨m, d, s, w, pl, g, rfl, hf, sa⟩ := hinv
    rw [List.drop_length] at hf
    have hf' : fault l .begin 0 false = if (s && d == 0 && decide (m ≠ .begin)) = true then none else some [] := hf
    have some_ : (s && d == 0 && decide (m ≠ Mood.begin)) = false → faultV l = .int (l.length : Int) := fun h => by
      unfold faultV
      rw [hf', h]
      rfl
    walk_at "u"
    cases s with
    | false =>
      refine iteF ?_
      walk_at "u"
      refine iteF ?_
      walk_at "u"
      refine w_lenS (line1000 (by rw [S_len]; omega)) ?_
      rw [S_len, ← some_ rfl]
      exact k _ sa
    | true =>
      refine iteT ?_
      walk_at "u"
      have e0 : decide (V.int (d : Int) = V.int 0) = (d == 0) := by
        rw [Bool.eq_iff_iff]
        simp
      rw [e0]
      cases hd : (d == 0) with
      | false =>
        refine iteF ?_
        walk_at "u"
        refine iteF ?_
        walk_at "u"
        refine w_lenS (line1000 (by rw [S_len]; omega)) ?_
        rw [S_len, ← some_ (by rw [hd]; rfl)]
        exact k _ sa
      | true =>
        refine iteT ?_
        walk_at "u"
        rw [mood_b]
        refine w_iteN (fun hm => ?_) fun hm => ?_
        · walk_at "u"
          have e : faultV l = .non := by
            unfold faultV
            rw [hf', hd, decide_eq_true hm]
            rfl
          rw [← e]
          exact k _ sa
        · walk_at "u"
          refine w_lenS (line1000 (by rw [S_len]; omega)) ?_
          rw [S_len, ← some_ (by rw [hm]; simp)]
          exact k _ sa
theorem ok__law_fault (T : Txt G) : FnOk P w G.K G.mg base (L2.CX P w) 2 G.f__law_fault G.d__law_fault ["_law_text"] (sp__law_fault G) := by
  refine T.F__law_fault.okX sc__law_fault (fun _ _ _ _ h => h.1) (fun cdv A outer s H vs Q E hr h => ⟨t__law_fault G (fun cls d _ H => E cls d H), ?_, pure__law_fault T vs H Q E h⟩)
  have tk : Takes (cxOf (L2.CX P w) P w G.K G.mg base ["_law_text", "_law_is_whole", "_law_mood", "_law_depth", "_law_is_second", "_law_place", "_law_sign"] "_law_fault" (defScope s__law_fault) G.f__law_fault cdv A outer s H E) (fun cls d _ H => E cls d H) := takes_of rfl rfl rfl rfl
  exact (pss_cons (ps_asg (pe_tup (pa_cons pe_str (pa_cons pe_int (pa_cons pe_bl pa_nil)))) (pg_tup rfl (pgs_cons (pg_name (i := 2) sc__law_fault.nd rfl (by first | exact Or.inl rfl | exact Or.inr rfl)) (pgs_cons (pg_name (i := 3) sc__law_fault.nd rfl (by first | exact Or.inl rfl | exact Or.inr rfl)) (pgs_cons (pg_name (i := 4) sc__law_fault.nd rfl (by first | exact Or.inl rfl | exact Or.inr rfl)) pgs_nil)))))
    (pss_cons (ps_for (passes_of rfl) rfl (pi_enumS rfl rfl T.n_enumerate (pa_cons (pv 0) pa_nil)) (pg_tup rfl (pgs_cons (pg_name (i := 5) sc__law_fault.nd rfl (by first | exact Or.inl rfl | exact Or.inr rfl)) (pgs_cons (pg_name (i := 6) sc__law_fault.nd rfl (by first | exact Or.inl rfl | exact Or.inr rfl)) pgs_nil))) (pss_cons (ps_if (pt_not (pt_val (pe_call (ok__law_is_open T) (hr.mono (by decide)) rfl T.g__law_is_open T.F__law_is_open.kp T.b__law_is_open .nil passL (pa_cons (pv 2) (pa_cons (pv 6) (pa_cons (pv 3) (pa_cons (pv 4) pa_nil))))))) (pss_one (ps_ret (pv 5))) pss_nil)
    (pss_one (ps_if (pt_cmpR op_eq (pv 6) pe_str (nomark _)) (pss_one (ps_par (i := 2) (j := 3) rfl sc__law_fault.nd rfl rfl (by decide) rfl rfl (pa_cons pe_str (pa_cons (pe_op o_addI (pv 3) pe_int) pa_nil)) (by rfl))) (pss_one (ps_if (pt_cmpR op_eq (pv 6) pe_str (nomark _)) (pss_one (ps_asg (pe_tup (pa_cons pe_str (pa_cons pe_bl pa_nil))) (pg_tup rfl (pgs_cons (pg_name (i := 2) sc__law_fault.nd rfl (by first | exact Or.inl rfl | exact Or.inr rfl)) (pgs_cons (pg_name (i := 4) sc__law_fault.nd rfl (by first | exact Or.inl rfl | exact Or.inr rfl)) pgs_nil))))) (pss_one (ps_if (pt_cmpR op_eq (pv 6) pe_str (nomark _)) (pss_one (ps_par (i := 2) (j := 3) rfl sc__law_fault.nd rfl rfl (by decide) rfl rfl (pa_cons pe_str (pa_cons (pe_op o_subI (pv 3) pe_int) pa_nil)) (by rfl))) (pss_one (ps_if (pt_cmpR op_eq (pv 2) pe_str (nomark _)) (pss_one (ps_set (i := 2) sc__law_fault.nd rfl (by first | exact Or.inl rfl | exact Or.inr rfl) (pe_ifExp (pt_cmpR op_eq (pv 6) pe_str (nomark _)) pe_str pe_str))) (pss_one (ps_if (pt_cmpR o_inG (pv 6) pe_str (by with_unfolding_all rfl)) (pss_one (ps_set (i := 2) sc__law_fault.nd rfl (by first | exact Or.inl rfl | exact Or.inr rfl) pe_str)) pss_nil))))))))))))
    (pss_cons (ps_set (i := 1) sc__law_fault.nd rfl (by first | exact Or.inl rfl | exact Or.inr rfl) (pe_and (pv 4) (pe_and (pe_cmpR op_eq (pv 3) pe_int (nomark _)) (pe_one (pe_cmpR op_ne (pv 2) pe_str (nomark _))))))
    (pss_one (ps_ret (pe_ifExp (pt_val (pv 1)) pe_non (pe_callB c_len (by rfl) T.n_len PySem.boot_len (pa_cons (pv 0) pa_nil))))))))

end
end K81

set_option Elab.async false
set_option linter.all false
set_option maxRecDepth 100000
set_option maxHeartbeats 4000000
namespace K81
open PySem PySem.Spec PyProof.Rows L2 LX M81
local macro_rules | `(tactic| walk_at "hp") => `(tactic| first | assumption | exact upd_same | (refine up_new (by assumption) ?_; walk_at "hp") | (refine up_ne (by first | assumption | (exact Ne.symm (by assumption))) ?_; walk_at "hp") | (refine up_mut (by assumption) (by intro z; cases z) ?_; walk_at "hp"))
local macro_rules | `(tactic| walk_at "w1") => `(tactic| first
  | (with_reducible refine w_seq ?_) | (with_reducible refine w_asg ?_) | (with_reducible refine w_name ?_) | (with_reducible refine w_ret ?_) | (with_reducible refine w_drop ?_) | (with_reducible refine w_ifS ?_)
  | (with_reducible refine w_var (by with_unfolding_all exact rfl) ?_) | (with_reducible refine w_c ?_) | (with_reducible refine w_op ?_) | (with_reducible refine w_test ?_) | (with_reducible refine w_B ?_)
  | (with_reducible refine w_bl ?_) | (with_reducible refine w_cons ?_) | (with_reducible refine w_nil ?_) | (with_reducible refine w_cb ?_) | (with_reducible refine w_call ?_) | (with_reducible refine w_callS ?_)
  | (with_reducible refine w_addI ?_) | (with_reducible refine w_subI ?_) | (with_reducible refine w_ltI ?_) | (with_reducible refine w_leI ?_) | (with_reducible refine w_gtI ?_) | (with_reducible refine w_geI ?_)
  | (with_reducible refine w_tAnd ?_) | (with_reducible refine w_tOr ?_) | (with_reducible refine w_tNot ?_) | (with_reducible refine w_andV ?_) | (with_reducible refine w_orV ?_) | (with_reducible refine w_notV ?_) | (with_reducible refine w_if ?_)
  | (with_reducible refine w_un ?_) | (with_reducible refine w_neg ?_) | (with_reducible refine w_intI ?_) | (with_reducible refine w_intB ?_) | (with_reducible refine w_abs ?_)
  | (with_reducible refine w_eq (by with_unfolding_all exact rfl) ?_) | (with_reducible refine w_ne (by with_unfolding_all exact rfl) ?_) | (with_reducible refine w_isNone ?_) | (with_reducible refine w_notNone ?_)
  | (with_reducible refine w_tup ?_) | (with_reducible refine w_lst ?_) | (with_reducible refine w_sl ?_) | (with_reducible refine w_noPart ?_) | (with_reducible refine w_part ?_) | (with_reducible refine w_partI ?_)
  | (with_reducible refine w_fld0 ?_) | (with_reducible refine w_rz ?_)
  | (with_reducible refine w_next ?_) | (with_reducible refine w_brk ?_) | (with_reducible refine w_cont ?_) | (with_reducible refine w_retN ?_))
local macro_rules | `(tactic| walk_at "w") => `(tactic| repeat walk_at "w1")
local macro_rules | `(tactic| walk_at "u1") => `(tactic| first | walk_at "w1" | (with_reducible refine w_gsub ?_) | (with_reducible refine w_par ?_) | (with_reducible refine w_par3 ?_) | (with_reducible refine w_pr2 ?_) | (with_reducible refine w_pr3 ?_) | (with_reducible refine w_then ?_) | (with_reducible refine w_for ?_) | (with_reducible refine w_rng1 ?_) | (with_reducible refine w_enumS ?_) | (with_reducible refine w_iList ?_) | (with_reducible refine w_iTup ?_) | (with_reducible refine w_iStr ?_) | (with_reducible refine w_make ?_))
local macro_rules | `(tactic| walk_at "u") => `(tactic| repeat walk_at "u1")
section
variable {P : Program} {w : World} {base : Heap} {G : Gx}
/-! what is said, what is due -/
def Due (H : Hp) (v : V) (l : List Nat) : Prop := match fault l .begin 0 false with
  | some q => v = .int ((l.length - q.length : Nat) : Int)
  | none => ∃ p, v = .ref p ∧ H p = some (.tup (namesOf fun c => decide (c ∈ l)))
theorem namesOf_congr {f g : Nat → Bool} (h : ∀ c, isName c = true → f c = g c) : namesOf f = namesOf g := by
  have hn : ∀ c ∈ nameCodes, isName c = true := by decide
  have e : nameCodes.filter f = nameCodes.filter g := List.filter_congr fun c hc => h c (hn c hc)
  show (nameCodes.filter f).map _ = (nameCodes.filter g).map _
  rw [e]
def sp__law_said (G : Gx) : Sp := fun vs H Q _ => vs.length = 1 ∧ ∃ v, vs = [v] ∧ ((∃ l, v = .str (S l) ∧ l.length ≤ 200 ∧ ∀ v' H', Due H' v' l → Same H H' → Q v' H') ∨
  (Odd G H v ∧ ∀ H', Same H H' → Q (.int (-1)) H'))
def t__law_said (G : Gx) (W : WX) : TS :=
  tTry G.K (fun _ _ _ _ => False) (⟨.ref G.c_NoTerm, some 1, fun a cls d => tRet (tXf a cls d G.c_NoTerm "place" (tVar 1))⟩ :: ⟨.ref G.c_FoldError, none, fun a cls d => tRet (tC (.str "other"))⟩ :: []) (fun W => tRet (tCallS (sp_read_identity G) (WE W) (tCons (tVar 0) tNil)))
theorem pure__law_said (T : Txt G) (vs : List V) (H : Hp) (Q : VK) (E : XK) (h : sp__law_said G vs H Q E) : t__law_said G (fun cls d _ H => E cls d H) { nx := fun _ H' => Q .non H', rt := Q } (start ["_law_text", "e"] vs) H := by
  obtain ⟨_, v, rfl, h⟩ := h
  unfold t__law_said
  show tRet _ _ _ _
  walk_at "u"
  have clause : ∀ (e : Addr) (H1 : Hp) (z : Int) (D : Ends), H1 e = some (.xd [("place", .int z)]) → D.rt = Q → ∀ tb, wCl G.K tb D (⟨.ref G.c_NoTerm, some 1, fun a cls d => tRet (tXf a cls d G.c_NoTerm "place" (tVar 1))⟩ :: ⟨.ref G.c_FoldError, none, fun a cls d => tRet (tC (.str "other"))⟩ :: []) (.ref G.c_NoTerm) (some e) (start ["_law_text", "e"] [v]) H1 → True := fun _ _ _ _ _ _ _ _ => trivial
  refine ⟨rfl, v, rfl, ?_⟩
  have catch_ : ∀ (z : Int) (k : ∀ H', Same H H' → Q (.int z) H') (e : Addr) (H1 : Hp), H1 e = some (.xd [("place", .int z)]) → Same H H1 → ∀ (W : WX),
      wCl G.K W { nx := fun _ H' => Q .non H', rt := Q } (⟨.ref G.c_NoTerm, some 1, fun a cls d => tRet (tXf a cls d G.c_NoTerm "place" (tVar 1))⟩ :: ⟨.ref G.c_FoldError, none, fun a cls d => tRet (tC (.str "other"))⟩ :: []) (.ref G.c_NoTerm) (some e) (start ["_law_text", "e"] [v]) H1 := by
    intro z k e H1 he s1 W
    refine ⟨true, T.exm_NoTerm_NoTerm, fun _ a na => ?_, fun q => nomatch q⟩
    refine ⟨.ref a, rfl, rfl, rfl, e, _, _, rfl, he, ?_, k H1 s1⟩
    simp [List.lookup]
  rcases h with ⟨l, rfl, hl, k⟩ | ⟨odd, k⟩
  · obtain ⟨o, ho⟩ := both_total l
    refine .inl ⟨l, o, rfl, hl, ho, fun q eo e H1 he s1 => ?_, fun ss ts eo p H1 hp s1 => ?_⟩
    · subst eo
      refine catch_ _ (fun H' s' => k _ _ ?_ s') e H1 he s1 _
      unfold Due
      rw [both_bad ho]
    · subst eo
      obtain ⟨f, hn⟩ := both_good ho
      refine k _ _ ?_ s1
      unfold Due
      rw [f]
      refine ⟨p, rfl, ?_⟩
      rw [hp]
      congr 2
      exact namesOf_congr fun c hc => decide_eq_decide.mpr (hn c hc)
  · exact .inr ⟨odd, fun e H1 he s1 => catch_ _ k e H1 he s1 _⟩
theorem ok__law_said (T : Txt G) : FnOk P w G.K G.mg base (L2.CX P w) 152 G.f__law_said G.d__law_said ["_law_text"] (sp__law_said G) := by
  refine T.F__law_said.okX sc__law_said (fun _ _ _ _ h => h.1) (fun cdv A outer s H vs Q E hr h => ⟨t__law_said G (fun cls d _ H => E cls d H), ?_, pure__law_said T vs H Q E h⟩)
  have tk : Takes (cxOf (L2.CX P w) P w G.K G.mg base ["_law_text", "e"] "_law_said" (defScope s__law_said) G.f__law_said cdv A outer s H E) (fun cls d _ H => E cls d H) := takes_of rfl rfl rfl rfl
  exact (pss_one (ps_try (tb := fun W => tRet (tCallS (sp_read_identity G) (WE W) (tCons (tVar 0) tNil))) (l := ⟨.ref G.c_NoTerm, some 1, fun a cls d => tRet (tXf a cls d G.c_NoTerm "place" (tVar 1))⟩ :: ⟨.ref G.c_FoldError, none, fun a cls d => tRet (tC (.str "other"))⟩ :: []) rfl rfl takes0 (fun W pn xe tk po => (pss_one (ps_ret (pe_callS (ok_read_identity T) (hr.mono (by decide)) rfl T.g_read_identity T.F_read_identity.kp T.b_read_identity (fun σ => passAt tk σ) (pa_cons (pv 0) pa_nil))))) (ClsOk.named (i := 1) sc__law_said.nd rfl rfl ⟨rfl, by decide, .inl T.gc_NoTerm⟩ (fun a oe cls d pn hz hf => (pss_one (ps_ret (pe_xf T.xf_NoTerm T.no_NoTerm_place hz hf (pv 1))))) (ClsOk.plain ⟨rfl, by decide, .inl T.gc_FoldError⟩ (fun a oe cls d pn hz hf => (pss_one (ps_ret pe_str))) ClsOk.nil))))

def sp__law_due (G : Gx) : Sp := fun vs H Q _ => vs.length = 1 ∧ ∃ l, vs = [.str (S l)] ∧ l.length ≤ 16000000 ∧ ∀ v' H', Due H' v' l → Same H H' → Q v' H'
def t__law_due (G : Gx) (W : WX) : TS :=
  tSeq (tAsg (tCall (sp__law_fault G) [] E0 (tCons (tVar 0) tNil)) (gName 1))
  (tSeq (tIfS (tTest (tOp rNotNone (tVar 1) (tC .non))) (tRet (tVar 1)) tNext)
  (tRet (tThen (tLc (iTup G.K (tTup (tCons (tC (.str "w")) (tCons (tC (.str "x")) (tCons (tC (.str "y")) (tCons (tC (.str "z")) tNil)))))) (gName 2) (tTest (tOp rInG (tVar 2) (tVar 0))) (tVar 2) [2]) (kTup G.K))))
theorem names_range2 (f : Nat → Bool) : ((List.range 4).filter fun i => f (nameCodes.getD i 0)).map (fun i => ([.str "w", .str "x", .str "y", .str "z"] : List V).getD i .non) = namesOf f := by
  have e : ([.str "w", .str "x", .str "y", .str "z"] : List V) = ([119, 120, 121, 122] : List Nat).map fun d => .str (S [d]) := by decide +kernel
  rw [e]
  have e4 : (List.range 4) = [0, 1, 2, 3] := rfl
  rw [e4]
  show _ = (([119, 120, 121, 122] : List Nat).filter f).map fun c => V.str (S [c])
  simp only [List.filter_cons, List.filter_nil, nameCodes, List.getD_cons_zero, List.getD_cons_succ]
  cases f 119 <;> cases f 120 <;> cases f 121 <;> cases f 122 <;> rfl
theorem pure__law_due (T : Txt G) (vs : List V) (H : Hp) (Q : VK) (E : XK) (h : sp__law_due G vs H Q E) : t__law_due G (fun cls d _ H => E cls d H) { nx := fun _ H' => Q .non H', rt := Q } (start ["_law_text", "_law_fault_here", "_law_name"] vs) H := by
  obtain ⟨_, l, rfl, hl, k⟩ := h
  unfold t__law_due
  walk_at "u"
  refine ⟨rfl, l, rfl, hl, fun H1 s1 => ?_⟩
  walk_at "u"
  cases hf : fault l .begin 0 false with
  | some q =>
    have e : faultV l = .int ((l.length - q.length : Nat) : Int) := by unfold faultV; rw [hf]
    rw [e]
    refine w_iteN (fun _ => ?_) fun h => nomatch h
    walk_at "u"
    refine k _ _ ?_ s1
    unfold Due
    rw [hf]
  | none =>
    have e : faultV l = .non := by unfold faultV; rw [hf]
    rw [e]
    refine w_iteN (fun h => absurd rfl h) fun _ => ?_
    walk_at "u"
    refine ⟨by show 4 ≤ sizeLine; decide, fun p hp => ?_⟩
    refine ⟨p, rfl, ⟨_, SqT.of upd_same⟩, fun q hq => ?_⟩
    have hs : Same H (upd H1 p (.tup [.str "w", .str "x", .str "y", .str "z"])) := same_new s1 hp
    refine lc_filterR (i := 2) (f := fun i => (fun c => decide (c ∈ l)) (nameCodes.getD i 0)) (fixR_tup G.K p [.str "w", .str "x", .str "y", .str "z"]) (by show 4 ≤ 16000000; decide) hq (fun Hx sx => SqT.of (sx _ _ upd_same)) (fun x => rfl) (fun x => rfl) (fun j Hx R hj sx qx => ?_) fun Hx sx ex => ?_
    · have hj : j < 4 := hj
      have ec : ([.str "w", .str "x", .str "y", .str "z"] : List V).getD j .non = .str ⟨#[nameCodes.getD j 0]⟩ := by
        have e : ([.str "w", .str "x", .str "y", .str "z"] : List V) = ([119, 120, 121, 122] : List Nat).map fun d => .str (S [d]) := by decide +kernel
        rw [e]
        have : j = 0 ∨ j = 1 ∨ j = 2 ∨ j = 3 := by omega
        rcases this with rfl | rfl | rfl | rfl <;> rfl
      rw [ec]
      walk_at "u"
      refine ⟨_, _, rfl, rfl, ?_⟩
      rw [S_cps]
      exact ⟨_, rfl, qx⟩
    · refine .inl ⟨q, _, rfl, SqL.of ex, fun r hr => k _ _ ?_ (same_new (hs.trans sx) hr)⟩
      unfold Due
      rw [hf]
      refine ⟨r, rfl, ?_⟩
      rw [upd_same]
      exact congrArg (fun x => some (HO.tup x)) (names_range2 fun c => decide (c ∈ l))
theorem ok__law_due (T : Txt G) : FnOk P w G.K G.mg base (L2.CX P w) 3 G.f__law_due G.d__law_due ["_law_text"] (sp__law_due G) := by
  refine T.F__law_due.okX sc__law_due (fun _ _ _ _ h => h.1) (fun cdv A outer s H vs Q E hr h => ⟨t__law_due G (fun cls d _ H => E cls d H), ?_, pure__law_due T vs H Q E h⟩)
  have tk : Takes (cxOf (L2.CX P w) P w G.K G.mg base ["_law_text", "_law_fault_here", "_law_name"] "_law_due" (defScope s__law_due) G.f__law_due cdv A outer s H E) (fun cls d _ H => E cls d H) := takes_of rfl rfl rfl rfl
  exact (pss_cons (ps_set (i := 1) sc__law_due.nd rfl (by first | exact Or.inl rfl | exact Or.inr rfl) (pe_call (ok__law_fault T) (hr.mono (by decide)) rfl T.g__law_fault T.F__law_fault.kp T.b__law_fault .nil passL (pa_cons (pv 0) pa_nil)))
    (pss_cons (ps_if (pt_cmpR o_notNone (pv 1) pe_non (nomark _)) (pss_one (ps_ret (pv 1))) pss_nil)
    (pss_one (ps_ret (pe_tupleOf rfl T.n_tuple (pe_lc (own := [("_law_name", 2)]) (g := (gName 2)) (tt := tTest (tOp rInG (tVar 2) (tVar 0))) rfl sc__law_due.nd (pi_tup (pe_tup (pa_cons pe_str (pa_cons pe_str (pa_cons pe_str (pa_cons pe_str pa_nil)))))) (blkOk_by (N := ["_law_text", "_law_fault_here", "_law_name"]) (sc := defScope s__law_due) (by decide +kernel)) (fun _ _ _ _ _ => pg_name (i := 2) sc__law_due.nd rfl (by first | exact Or.inl rfl | exact Or.inr rfl)) (fun _ _ _ _ _ => pts_one (pt_cmpR o_inG (pv 2) (pv 0) (by with_unfolding_all rfl))) (fun _ _ _ _ _ => pv 2)))))))

/-! the values compared -/
def dueD (l : List Nat) : PyData := match fault l .begin 0 false with
  | some q => .int ((l.length - q.length : Nat) : Int)
  | none => .tuple ((nameCodes.filter fun c => decide (c ∈ l)).map fun c => .str (S [c]))
theorem dp_names {K : PySem.W.Frag} {H : Hp} : ∀ l : List Nat, DpAll K H (l.map fun c => .str (S [c])) (l.map fun c => .str (S [c]))
  | [] => .nil
  | c :: l => .cons (.str _) (dp_names l)
theorem Due.dp {K : PySem.W.Frag} {H : Hp} {v : V} {l : List Nat} (h : Due H v l) : Dp K H v (dueD l) := by
  unfold Due at h
  unfold dueD
  cases hf : fault l .begin 0 false with
  | some q =>
    rw [hf] at h
    rw [h]
    exact .int _
  | none =>
    rw [hf] at h
    obtain ⟨p, rfl, hp⟩ := h
    exact .tup (SqT.of hp) (dp_names _)
theorem Due.keep {H H' : Hp} {v : V} {l : List Nat} (h : Due H v l) (s : Same H H') : Due H' v l := by
  unfold Due at h ⊢
  cases hf : fault l .begin 0 false with
  | some q => rw [hf] at h; exact h
  | none =>
    rw [hf] at h
    obtain ⟨p, e, hp⟩ := h
    exact ⟨p, e, s _ _ hp⟩
theorem names_ok (f : Nat → Bool) : SeqAt.shaped (.tuple ((nameCodes.filter f).map fun c => .str (S [c]))) = true ∧ PyData.eqv (.tuple ((nameCodes.filter f).map fun c => .str (S [c]))) (.tuple ((nameCodes.filter f).map fun c => .str (S [c]))) = true := by
  simp only [List.filter_cons, List.filter_nil, nameCodes]
  cases f 119 <;> cases f 120 <;> cases f 121 <;> cases f 122 <;> decide +kernel
theorem dueD_ok (l : List Nat) : SeqAt.shaped (dueD l) = true ∧ PyData.eqv (dueD l) (dueD l) = true := by
  unfold dueD
  cases fault l .begin 0 false with
  | some q => exact ⟨rfl, by show ((_ : Int) == _) = true; simp⟩
  | none => exact names_ok _
/-- said == due, asked by != -/
theorem ne_due {K : PySem.W.Frag} {H : Hp} {x y : V} {l : List Nat} {Q : VK} (hx : Due H x l) (hy : Due H y l) (h : Q (.bl false) H) : rNeD K x y H Q := by
  refine ⟨dueD l, dueD l, hx.dp, hy.dp, (dueD_ok l).1, (dueD_ok l).1, ?_⟩
  rw [(dueD_ok l).2]
  exact h
/-- said(text) != due(text) -/
theorem r_same {tx : TE} {σ : L2.St} {H : Hp} {Q : VK} (l : List Nat) (hl : l.length ≤ 200) (hx : ∀ H Q, Q (.str (S l)) H → tx σ H Q) (k : ∀ H', Same H H' → Q (.bl false) H') :
    tOp (rNeD G.K) (tCall (sp__law_said G) [] E0 (tCons tx tNil)) (tCall (sp__law_due G) [] E0 (tCons tx tNil)) σ H Q := by
  refine hx _ _ ⟨rfl, _, rfl, .inl ⟨l, rfl, hl, fun v1 H1 d1 s1 => ?_⟩⟩
  refine hx _ _ ⟨rfl, l, rfl, by omega, fun v2 H2 d2 s2 => ?_⟩
  exact ne_due (d1.keep s2) d2 (k _ (s1.trans s2))
theorem r_sameW {tx : TE} {σ : L2.St} {H : Hp} {Q : VK} (l : List Nat) (hl : l.length ≤ 200) (hx : ∀ H Q, Q (.str (S l)) H → tx σ H Q) (k : ∀ H', Same H H' → Q (.bl false) H') :
    sp__law_said G ([.str (S l)] ++ []) H (fun x H1 => tCall (sp__law_due G) [] E0 (tCons tx tNil) σ H1 fun y H2 => rNeD G.K x y H2 Q) E0 := by
  refine ⟨rfl, _, rfl, .inl ⟨l, rfl, hl, fun v1 H1 d1 s1 => ?_⟩⟩
  refine hx _ _ ⟨rfl, l, rfl, by omega, fun v2 H2 d2 s2 => ?_⟩
  exact ne_due (d1.keep s2) d2 (k _ (s1.trans s2))

/-! one drawn text and its bent texts -/
def sp__law_right (G : Gx) : Sp := fun vs H Q _ => vs.length = 1 ∧ ∃ s : Addr, vs = [.ref s] ∧ SrcAt H s ∧ ∀ H', SrcAt H' s → But s H H' → Q (.bl true) H'
def t__law_right (G : Gx) (W : WX) : TS :=
  tSeq (tAsg (tOp rAddS (tOp rAddS (tCall (spd__law_term G 7) [] E0 (tCons (tVar 0) (tCons (tC (.int 6)) tNil))) (tC (.str "="))) (tCall (spd__law_term G 7) [] E0 (tCons (tVar 0) (tCons (tC (.int 6)) tNil)))) (gName 1))
  (tSeq (tIfS (tTest (tOp rGtI (tCB (rLen G.K) (tCons (tVar 1) tNil)) (tC (.int 180)))) (tRet (tC (.bl true))) tNext)
  (tSeq (tIfS (tOr (tTest (tOp rNotNone (tCall (sp__law_fault G) [] E0 (tCons (tVar 1) tNil)) (tC .non))) (tTest (tOp (rNeD G.K) (tCall (sp__law_said G) [] E0 (tCons (tVar 1) tNil)) (tCall (sp__law_due G) [] E0 (tCons (tVar 1) tNil))))) (tRet (tC (.bl false))) tNext)
  (tSeq (tFor (iRng1 (tCons (tC (.int 8)) tNil)) (gName 2) (tSeq (tAsg (tCall (sp__law_draw G) [] E0 (tCons (tVar 0) (tCons (tOp rAddI (tCB (rLen G.K) (tCons (tVar 1) tNil)) (tC (.int 1))) tNil))) (gName 3))
  (tSeq (tAsg (tCall (sp__law_pick G) [] E0 (tCons (tVar 0) (tCons (tLst (tCons (tC (.str "")) (tCons (tC (.str "1")) (tCons (tC (.str "w")) (tCons (tC (.str "z")) (tCons (tC (.str "(")) (tCons (tC (.str ")")) (tCons (tC (.str "^")) (tCons (tC (.str "~")) (tCons (tC (.str "=")) (tCons (tC (.str " ")) (tCons (tC (.str "a")) (tCons (tC (.str "X")) (tCons (tC (.str "0")) (tCons (tC (.str "*")) (tCons (tC (.str "2")) tNil)))))))))))))))) tNil))) (gName 4))
  (tSeq (tAsg (tOp rAddS (tOp rAddS (tSl rSlS (tVar 1) tNoPart (tPart (tVar 3))) (tVar 4)) (tSl rSlS (tVar 1) (tPart (tOp rAddI (tVar 3) (tCall (sp__law_draw G) [] E0 (tCons (tVar 0) (tCons (tC (.int 2)) tNil))))) tNoPart)) (gName 5))
  (tIfS (tOr (tTest (tOp (rNeD G.K) (tCall (sp__law_said G) [] E0 (tCons (tVar 5) tNil)) (tCall (sp__law_due G) [] E0 (tCons (tVar 5) tNil)))) (tTest (tOp (rNeD G.K) (tCall (sp__law_said G) [] E0 (tCons (tSl rSlS (tVar 1) tNoPart (tPart (tVar 3))) tNil)) (tCall (sp__law_due G) [] E0 (tCons (tSl rSlS (tVar 1) tNoPart (tPart (tVar 3))) tNil))))) (tRet (tC (.bl false))) tNext)))))
  (tRet (tC (.bl true))))))
theorem pick_sign {v : V} (h : v ∈ ([.str "", .str "1", .str "w", .str "z", .str "(", .str ")", .str "^", .str "~", .str "=", .str " ", .str "a", .str "X", .str "0", .str "*", .str "2"] : List V)) : ∃ U : List Nat, U.length ≤ 1 ∧ v = .str (S U) := by
  have e : ([.str "", .str "1", .str "w", .str "z", .str "(", .str ")", .str "^", .str "~", .str "=", .str " ", .str "a", .str "X", .str "0", .str "*", .str "2"] : List V) = ([[], [49], [119], [122], [40], [41], [94], [126], [61], [32], [97], [88], [48], [42], [50]] : List (List Nat)).map fun d => .str (S d) := by decide +kernel
  rw [e] at h
  obtain ⟨c, hc, rfl⟩ := List.mem_map.mp h
  have : ∀ U ∈ ([[], [49], [119], [122], [40], [41], [94], [126], [61], [32], [97], [88], [48], [42], [50]] : List (List Nat)), U.length ≤ 1 := by decide
  exact ⟨c, this c hc, rfl⟩
def RightInv (H0 : Hp) (s : Addr) (l : List Nat) (σ : L2.St) (H : Hp) : Prop := ∃ (a b c d : Option V), σ = [some (.ref s), some (.str (S l)), a, b, c, d] ∧ SrcAt H s ∧ But s H0 H
theorem But.thenSame {a : Addr} {H0 H H1 : Hp} (b : But a H0 H) (s : Same H H1) : But a H0 H1 := fun c o h n => s c o (b c o h n)
theorem SrcAt.same {H H1 : Hp} {s : Addr} (h : SrcAt H s) (t : Same H H1) : SrcAt H1 s := by
  obtain ⟨a, b, c, e⟩ := h
  exact ⟨a, b, c, t _ _ e⟩
theorem cut_len (l : List Nat) (lo hi : Option Int) : ((l.drop (HT.sIx l.length 0 lo)).take (HT.sIx l.length l.length hi - HT.sIx l.length 0 lo)).length ≤ l.length := by
  rw [List.length_take, List.length_drop]
  omega
theorem pure__law_right (T : Txt G) (vs : List V) (H : Hp) (Q : VK) (E : XK) (h : sp__law_right G vs H Q E) : t__law_right G (fun cls d _ H => E cls d H) { nx := fun _ H' => Q .non H', rt := Q } (start ["_law_source_here", "_law_text", "_law_turn", "_law_at", "_law_sign", "_law_bent"] vs) H := by
  obtain ⟨_, s, rfl, hs, k⟩ := h
  unfold t__law_right
  walk_at "u"
  refine ⟨rfl, 6, by decide, rfl, s, rfl, hs, fun U H1 gU lU s1 b1 => ?_⟩
  walk_at "u"
  have h6 : 20 * 3 ^ 6 = 14580 := by decide
  rw [h6] at lU
  rw [e_eq]
  refine w_addS (line1000 (by rw [S_len, S_len]; show _ + 1 ≤ _; omega)) ?_
  rw [S_app]
  walk_at "u"
  refine ⟨rfl, 6, by decide, rfl, s, rfl, s1, fun U2 H2 gU2 lU2 s2 b2 => ?_⟩
  rw [h6] at lU2
  refine w_addS (line1000 (by rw [S_len, S_len, List.length_append]; show _ + 1 + _ ≤ _; omega)) ?_
  rw [S_app]
  have el : U ++ [61] ++ U2 = U ++ 61 :: U2 := by simp
  have hw : fault (U ++ [61] ++ U2) .begin 0 false = none := by rw [el]; exact whole gU gU2
  have hlen : (U ++ [61] ++ U2).length ≤ 16000000 := by rw [List.length_append, List.length_append]; show _ + 1 + _ ≤ _; omega
  generalize U ++ [61] ++ U2 = l at hw hlen
  have b12 : But s H H2 := b1.trans b2
  walk_at "u"
  refine w_lenS (line1000 (by rw [S_len]; omega)) ?_
  walk_at "u"
  rw [S_len]
  refine w_ite (fun _ => ?_) fun hs2 => ?_
  · walk_at "u"
    exact k _ s2 b12
  have hl : l.length ≤ 180 := by omega
  walk_at "u"
  refine ⟨rfl, l, rfl, hlen, fun H3 s3 => ?_⟩
  have ef : faultV l = .non := by unfold faultV; rw [hw]
  rw [ef]
  walk_at "u"
  refine w_iteN (fun h => absurd rfl h) fun _ => ?_
  refine w_test ?_
  refine r_same l (by omega) (fun H Q q => ⟨_, rfl, q⟩) fun H4 s4 => ?_
  refine ⟨_, rfl, ?_⟩
  refine iteF ?_
  walk_at "u"
  refine ⟨_, rfl, by decide, by decide, ?_⟩
  refine for_fix (fix_rng 0 (8 : Int).toNat) (fun _ => RightInv H s l) ⟨_, _, _, _, rfl, (s2.same s3).same s4, (b12.thenSame s3).thenSame s4⟩ (fun i σ Ha hi hinv => ?_) (fun σ Ha hinv => ?_)
  rotate_left
  · obtain ⟨a, b, c, d, rfl, sa, ba⟩ := hinv
    walk_at "u"
    exact k _ sa ba
  obtain ⟨a, b, c, d, rfl, sa, ba⟩ := hinv
  walk_at "u"
  refine w_lenS (line1000 (by rw [S_len]; omega)) ?_
  rw [S_len]
  walk_at "u"
  refine ⟨rfl, s, _, rfl, sa, by omega, by omega, fun at_ Hb a0 a1 sb bb => ?_⟩
  walk_at "u"
  refine ⟨by show 15 ≤ sizeLine; decide, fun p hp => ?_⟩
  walk_at "u"
  refine r_pick (sb.new hp) upd_same (sb.ne hp) (by simp) (by show 15 ≤ 1000; decide) fun v Hc hv sc bc => ?_
  have bc' : But s H Hc := fun b o hb nb => bc b o (up_new hp ((ba.trans bb) b o hb nb)) nb
  obtain ⟨W, lW, rfl⟩ := pick_sign hv
  walk_at "u"
  refine w_slS (line1000 (by rw [S_len]; omega)) ?_
  rw [S_cut]
  walk_at "u"
  refine w_addS (line1000 (by rw [S_len, S_len]; have := cut_len l none (some at_); omega)) ?_
  rw [S_app]
  walk_at "u"
  refine ⟨rfl, s, _, rfl, sc, by decide, by decide, fun j Hd j0 j1 sd bd => ?_⟩
  walk_at "u"
  refine w_slS (line1000 (by rw [S_len]; omega)) ?_
  rw [S_cut]
  obtain ⟨n, rfl⟩ := Int.eq_ofNat_of_zero_le a0
  obtain ⟨m, rfl⟩ := Int.eq_ofNat_of_zero_le j0
  have hn : n ≤ l.length := by omega
  have e1 : (l.drop (HT.sIx l.length 0 none)).take (HT.sIx l.length l.length (some (n : Int)) - HT.sIx l.length 0 none) = l.take n := by
    rw [HT.sIx_nat]
    show (l.drop 0).take (min n l.length - 0) = _
    rw [List.drop_zero, Nat.sub_zero, Nat.min_eq_left hn]
  have e2 : (l.drop (HT.sIx l.length 0 (some ((n : Int) + (m : Int))))).take (HT.sIx l.length l.length none - HT.sIx l.length 0 (some ((n : Int) + (m : Int)))) = l.drop (n + m) := by
    have : (n : Int) + (m : Int) = ((n + m : Nat) : Int) := by omega
    rw [this, HT.sIx_nat]
    show (l.drop (min (n + m) l.length)).take (l.length - min (n + m) l.length) = _
    rw [List.take_of_length_le (by rw [List.length_drop]; exact Nat.le_refl _)]
    by_cases h : n + m ≤ l.length
    · rw [Nat.min_eq_left h]
    · rw [Nat.min_eq_right (by omega), List.drop_length, List.drop_of_length_le (by omega)]
  rw [e1, e2]
  have lb : (l.take n ++ W ++ l.drop (n + m)).length ≤ 200 := by
    rw [List.length_append, List.length_append, List.length_take, List.length_drop]
    omega
  refine w_addS (line1000 (by rw [S_len, S_len, ← List.length_append]; omega)) ?_
  rw [S_app]
  have bd' : But s H Hd := bc'.trans bd
  walk_at "u"
  refine r_sameW _ lb (fun H Q q => ⟨_, rfl, q⟩) fun H5 s5 => ?_
  refine ⟨_, rfl, ?_⟩
  refine iteF ?_
  refine w_test ?_
  refine r_same (l.take n) (by rw [List.length_take]; omega) (fun H Q q => ?_) fun H6 s6 => ?_
  · walk_at "u"
    refine w_slS (line1000 (by rw [S_len]; omega)) ?_
    rw [S_cut, e1]
    exact q
  refine ⟨_, rfl, ?_⟩
  refine iteF ?_
  walk_at "u"
  exact ⟨_, _, _, _, rfl, (sd.same s5).same s6, (bd'.thenSame s5).thenSame s6⟩
theorem ok__law_right (T : Txt G) : FnOk P w G.K G.mg base (L2.CX P w) 153 G.f__law_right G.d__law_right ["_law_source_here"] (sp__law_right G) := by
  refine T.F__law_right.okX sc__law_right (fun _ _ _ _ h => h.1) (fun cdv A outer s H vs Q E hr h => ⟨t__law_right G (fun cls d _ H => E cls d H), ?_, pure__law_right T vs H Q E h⟩)
  have tk : Takes (cxOf (L2.CX P w) P w G.K G.mg base ["_law_source_here", "_law_text", "_law_turn", "_law_at", "_law_sign", "_law_bent"] "_law_right" (defScope s__law_right) G.f__law_right cdv A outer s H E) (fun cls d _ H => E cls d H) := takes_of rfl rfl rfl rfl
  exact (pss_cons (ps_set (i := 1) sc__law_right.nd rfl (by first | exact Or.inl rfl | exact Or.inr rfl) (pe_op o_addS (pe_op o_addS (pe_call (ok__law_term T 7 (by decide)) (hr.mono (by decide)) rfl T.g__law_term T.F__law_term.kp T.b__law_term .nil passL (pa_cons (pv 0) (pa_cons pe_int pa_nil))) pe_str) (pe_call (ok__law_term T 7 (by decide)) (hr.mono (by decide)) rfl T.g__law_term T.F__law_term.kp T.b__law_term .nil passL (pa_cons (pv 0) (pa_cons pe_int pa_nil)))))
    (pss_cons (ps_if (pt_cmpR o_gtI (pe_callB c_len (by rfl) T.n_len PySem.boot_len (pa_cons (pv 1) pa_nil)) pe_int (nomark _)) (pss_one (ps_ret pe_bl)) pss_nil)
    (pss_cons (ps_if (PW.pt (pw_or (pt_cmpR o_notNone (pe_call (ok__law_fault T) (hr.mono (by decide)) rfl T.g__law_fault T.F__law_fault.kp T.b__law_fault .nil passL (pa_cons (pv 1) pa_nil)) pe_non (nomark _)) (pw_or1 (pt_cmpR (op_neD (hu64 hr)) (pe_call (ok__law_said T) (hr.mono (by decide)) rfl T.g__law_said T.F__law_said.kp T.b__law_said .nil passL (pa_cons (pv 1) pa_nil)) (pe_call (ok__law_due T) (hr.mono (by decide)) rfl T.g__law_due T.F__law_due.kp T.b__law_due .nil passL (pa_cons (pv 1) pa_nil)) (nomark _))))) (pss_one (ps_ret pe_bl)) pss_nil)
    (pss_cons (ps_for (passes_of rfl) rfl (pi_range1 rfl T.n_range (pa_cons pe_int pa_nil)) (pg_name (i := 2) sc__law_right.nd rfl (by first | exact Or.inl rfl | exact Or.inr rfl)) (pss_cons (ps_set (i := 3) sc__law_right.nd rfl (by first | exact Or.inl rfl | exact Or.inr rfl) (pe_call (ok__law_draw T) (hr.mono (by decide)) rfl T.g__law_draw T.F__law_draw.kp T.b__law_draw .nil passL (pa_cons (pv 0) (pa_cons (pe_op o_addI (pe_callB c_len (by rfl) T.n_len PySem.boot_len (pa_cons (pv 1) pa_nil)) pe_int) pa_nil))))
    (pss_cons (ps_set (i := 4) sc__law_right.nd rfl (by first | exact Or.inl rfl | exact Or.inr rfl) (pe_call (ok__law_pick T) (hr.mono (by decide)) rfl T.g__law_pick T.F__law_pick.kp T.b__law_pick .nil passL (pa_cons (pv 0) (pa_cons (pe_lst (pa_cons pe_str (pa_cons pe_str (pa_cons pe_str (pa_cons pe_str (pa_cons pe_str (pa_cons pe_str (pa_cons pe_str (pa_cons pe_str (pa_cons pe_str (pa_cons pe_str (pa_cons pe_str (pa_cons pe_str (pa_cons pe_str (pa_cons pe_str (pa_cons pe_str pa_nil)))))))))))))))) pa_nil))))
    (pss_cons (ps_set (i := 5) sc__law_right.nd rfl (by first | exact Or.inl rfl | exact Or.inr rfl) (pe_op o_addS (pe_op o_addS (pe_slice sl_str (pv 1) po_none (po_some (pv 3))) (pv 4)) (pe_slice sl_str (pv 1) (po_some (pe_op o_addI (pv 3) (pe_call (ok__law_draw T) (hr.mono (by decide)) rfl T.g__law_draw T.F__law_draw.kp T.b__law_draw .nil passL (pa_cons (pv 0) (pa_cons pe_int pa_nil))))) po_none)))
    (pss_one (ps_if (PW.pt (pw_or (pt_cmpR (op_neD (hu64 hr)) (pe_call (ok__law_said T) (hr.mono (by decide)) rfl T.g__law_said T.F__law_said.kp T.b__law_said .nil passL (pa_cons (pv 5) pa_nil)) (pe_call (ok__law_due T) (hr.mono (by decide)) rfl T.g__law_due T.F__law_due.kp T.b__law_due .nil passL (pa_cons (pv 5) pa_nil)) (nomark _)) (pw_or1 (pt_cmpR (op_neD (hu64 hr)) (pe_call (ok__law_said T) (hr.mono (by decide)) rfl T.g__law_said T.F__law_said.kp T.b__law_said .nil passL (pa_cons (pe_slice sl_str (pv 1) po_none (po_some (pv 3))) pa_nil)) (pe_call (ok__law_due T) (hr.mono (by decide)) rfl T.g__law_due T.F__law_due.kp T.b__law_due .nil passL (pa_cons (pe_slice sl_str (pv 1) po_none (po_some (pv 3))) pa_nil)) (nomark _))))) (pss_one (ps_ret pe_bl)) pss_nil))))))
    (pss_one (ps_ret pe_bl))))))

end
end K81

set_option Elab.async false
set_option linter.all false
set_option maxRecDepth 100000
set_option maxHeartbeats 4000000
namespace K81
open PySem PySem.Spec PyProof.Rows L2 LX M81
local macro_rules | `(tactic| walk_at "hp") => `(tactic| first | assumption | exact upd_same | (refine up_new (by assumption) ?_; walk_at "hp") | (refine up_ne (by first | assumption | (exact Ne.symm (by assumption))) ?_; walk_at "hp") | (refine up_mut (by assumption) (by intro z; cases z) ?_; walk_at "hp"))
local macro_rules | `(tactic| walk_at "w1") => `(tactic| first
  | (with_reducible refine w_seq ?_) | (with_reducible refine w_asg ?_) | (with_reducible refine w_name ?_) | (with_reducible refine w_ret ?_) | (with_reducible refine w_drop ?_) | (with_reducible refine w_ifS ?_)
  | (with_reducible refine w_var (by with_unfolding_all exact rfl) ?_) | (with_reducible refine w_c ?_) | (with_reducible refine w_op ?_) | (with_reducible refine w_test ?_) | (with_reducible refine w_B ?_)
  | (with_reducible refine w_bl ?_) | (with_reducible refine w_cons ?_) | (with_reducible refine w_nil ?_) | (with_reducible refine w_cb ?_) | (with_reducible refine w_call ?_) | (with_reducible refine w_callS ?_)
  | (with_reducible refine w_addI ?_) | (with_reducible refine w_subI ?_) | (with_reducible refine w_ltI ?_) | (with_reducible refine w_leI ?_) | (with_reducible refine w_gtI ?_) | (with_reducible refine w_geI ?_)
  | (with_reducible refine w_tAnd ?_) | (with_reducible refine w_tOr ?_) | (with_reducible refine w_tNot ?_) | (with_reducible refine w_andV ?_) | (with_reducible refine w_orV ?_) | (with_reducible refine w_notV ?_) | (with_reducible refine w_if ?_)
  | (with_reducible refine w_un ?_) | (with_reducible refine w_neg ?_) | (with_reducible refine w_intI ?_) | (with_reducible refine w_intB ?_) | (with_reducible refine w_abs ?_)
  | (with_reducible refine w_eq (by with_unfolding_all exact rfl) ?_) | (with_reducible refine w_ne (by with_unfolding_all exact rfl) ?_) | (with_reducible refine w_isNone ?_) | (with_reducible refine w_notNone ?_)
  | (with_reducible refine w_tup ?_) | (with_reducible refine w_lst ?_) | (with_reducible refine w_sl ?_) | (with_reducible refine w_noPart ?_) | (with_reducible refine w_part ?_) | (with_reducible refine w_partI ?_)
  | (with_reducible refine w_fld0 ?_) | (with_reducible refine w_rz ?_)
  | (with_reducible refine w_next ?_) | (with_reducible refine w_brk ?_) | (with_reducible refine w_cont ?_) | (with_reducible refine w_retN ?_))
local macro_rules | `(tactic| walk_at "w") => `(tactic| repeat walk_at "w1")
local macro_rules | `(tactic| walk_at "u1") => `(tactic| first | walk_at "w1" | (with_reducible refine w_gsub ?_) | (with_reducible refine w_par ?_) | (with_reducible refine w_par3 ?_) | (with_reducible refine w_pr2 ?_) | (with_reducible refine w_pr3 ?_) | (with_reducible refine w_then ?_) | (with_reducible refine w_for ?_) | (with_reducible refine w_rng1 ?_) | (with_reducible refine w_enumS ?_) | (with_reducible refine w_iList ?_) | (with_reducible refine w_iTup ?_) | (with_reducible refine w_iStr ?_) | (with_reducible refine w_make ?_))
local macro_rules | `(tactic| walk_at "u") => `(tactic| repeat walk_at "u1")
section
variable {P : Program} {w : World} {base : Heap} {G : Gx}
/-! texts with a known answer -/
theorem r_eqV {K : PySem.W.Frag} {H : Hp} {x y : V} {l : List Nat} {d : PyData} {Q : VK} (hx : Due H x l) (hy : Dp K H y d) (hd : SeqAt.shaped d = true) (he : PyData.eqv (dueD l) d = true) (h : Q (.bl false) H) : rNeD K x y H Q := by
  refine ⟨dueD l, d, hx.dp, hy, (dueD_ok l).1, hd, ?_⟩
  rw [he]
  exact h
theorem r_eqI {K : PySem.W.Frag} {H : Hp} {i : Int} {Q : VK} (h : Q (.bl false) H) : rNeD K (.int i) (.int i) H Q := by
  refine ⟨_, _, .int i, .int i, rfl, rfl, ?_⟩
  have : PyData.eqv (.int i) (.int i) = true := by show (i == i) = true; simp
  rw [this]
  exact h
theorem r_saidW {H : Hp} {Q : VK} {E : XK} (x : Str) (l : List Nat) (hx : x = S l) (hl : l.length ≤ 200) (k : ∀ v' H', Due H' v' l → Same H H' → Q v' H') : sp__law_said G [.str x] H Q E := ⟨rfl, _, rfl, .inl ⟨l, by rw [hx], hl, k⟩⟩
theorem r_saidL {H : Hp} {Q : VK} {E : XK} (x : Str) (l : List Nat) (hx : x = S l) (h1 : 200 < l.length) (h2 : l.length ≤ 16000000) (k : ∀ H', Same H H' → Q (.int (-1)) H') : sp__law_said G [.str x] H Q E := ⟨rfl, _, rfl, .inr ⟨.inl ⟨l, by rw [hx], h1, h2⟩, k⟩⟩
theorem r_saidT {H : Hp} {Q : VK} {E : XK} {v : V} {t : String} (ty : TyX G.K H v (.type t)) (hk : kitB t "str" = some false) (k : ∀ H', Same H H' → Q (.int (-1)) H') : sp__law_said G [v] H Q E := ⟨rfl, _, rfl, .inr ⟨.inr ⟨t, ty, hk⟩, k⟩⟩
/-- what is due: an int or a tuple of texts -/
def DV (H : Hp) (d : V) (D : PyData) : Prop := (∃ i, d = .int i ∧ D = .int i) ∨ ∃ (q : Addr) (l : List Nat), d = .ref q ∧ H q = some (.tup (l.map fun c => .str (S [c]))) ∧ D = .tuple (l.map fun c => .str (S [c]))
theorem DV.same {H H' : Hp} {d : V} {D : PyData} (h : DV H d D) (s : Same H H') : DV H' d D := by
  rcases h with h | ⟨q, l, e, hq, eD⟩
  · exact .inl h
  · exact .inr ⟨q, l, e, s _ _ hq, eD⟩
theorem DV.dp {K : PySem.W.Frag} {H : Hp} {d : V} {D : PyData} (h : DV H d D) : Dp K H d D := by
  rcases h with ⟨i, rfl, rfl⟩ | ⟨q, l, rfl, hq, rfl⟩
  · exact .int i
  · exact .tup (SqT.of hq) (dp_names l)
def caseOk (t : Str) (D : PyData) : Bool := decide (t.cps.toList.length ≤ 200) && SeqAt.shaped D && PyData.eqv (dueD t.cps.toList) D
def CaseV (H : Hp) (v : V) : Prop := ∃ p t d D, v = .ref p ∧ H p = some (.tup [.str t, d]) ∧ DV H d D ∧ caseOk t D = true
theorem CaseV.same {H H' : Hp} {v : V} (h : CaseV H v) (s : Same H H') : CaseV H' v := by
  obtain ⟨p, t, d, D, e, hp, hd, c⟩ := h
  exact ⟨p, t, d, D, e, s _ _ hp, hd.same s, c⟩
theorem case_int {σ : L2.St} (t : Str) (i : Int) (c : caseOk t (.int i) = true) : ∀ H Q, (∀ v H', CaseV H' v → Same H H' → Q v H') → tTup (tCons (tC (.str t)) (tCons (tC (.int i)) tNil)) σ H Q := fun H Q k =>
  ⟨by show 2 ≤ sizeLine; decide, fun p hp => k _ _ ⟨p, t, _, _, rfl, upd_same, .inl ⟨i, rfl, rfl⟩, c⟩ (same_new (Same.refl H) hp)⟩
theorem case_tup {σ : L2.St} {ts : TA} (t : Str) (l : List Nat) (hl : l.length ≤ 1000) (hts : ∀ H QA, QA (l.map fun c => V.str (S [c])) H → ts σ H QA) (c : caseOk t (.tuple (l.map fun c => .str (S [c]))) = true) :
    ∀ H Q, (∀ v H', CaseV H' v → Same H H' → Q v H') → tTup (tCons (tC (.str t)) (tCons (tTup ts) tNil)) σ H Q := fun H Q k => by
  refine hts H _ ⟨line1000 (by rw [List.length_map]; omega), fun q hq => ⟨by show 2 ≤ sizeLine; decide, fun p hp => ?_⟩⟩
  exact k _ _ ⟨p, t, _, _, rfl, upd_same, .inr ⟨q, l, rfl, up_new hp upd_same, rfl⟩, c⟩ (same_new (same_new (Same.refl H) hq) hp)
theorem cases_nil {σ : L2.St} : ∀ H QA, (∀ vs H', vs.length = 0 → (∀ v ∈ vs, CaseV H' v) → Same H H' → QA vs H') → tNil σ H QA := fun H QA k => k [] H rfl (fun v h => nomatch h) (Same.refl H)
theorem cases_cons {σ : L2.St} {te : TE} {ts : TA} {n : Nat} (h1 : ∀ H Q, (∀ v H', CaseV H' v → Same H H' → Q v H') → te σ H Q) (h2 : ∀ H QA, (∀ vs H', vs.length = n → (∀ v ∈ vs, CaseV H' v) → Same H H' → QA vs H') → ts σ H QA) :
    ∀ H QA, (∀ vs H', vs.length = n + 1 → (∀ v ∈ vs, CaseV H' v) → Same H H' → QA vs H') → tCons te ts σ H QA := fun H QA k => by
  refine h1 H _ fun v H1 c1 s1 => h2 H1 _ fun vs H2 el c2 s2 => k _ _ (by rw [List.length_cons, el]) (fun x hx => ?_) (s1.trans s2)
  rcases List.mem_cons.mp hx with rfl | hx
  · exact c1.same s2
  · exact c2 x hx
theorem e_wxyz : ([.str "w", .str "x", .str "y", .str "z"] : List V) = ([119, 120, 121, 122] : List Nat).map fun d => .str (S [d]) := by decide +kernel
def deepL : List Nat := List.replicate 98 40 ++ 120 :: (List.replicate 98 41 ++ [61, 49])
theorem dp_x {K : PySem.W.Frag} {H : Hp} {p : Addr} {x : Str} (hp : H p = some (.tup [.str x])) : Dp K H (.ref p) (.tuple [.str x]) := .tup (SqT.of hp) (.cons (.str _) .nil)
def sp__law_long_right (G : Gx) : Sp := fun vs H Q _ => vs.length = 0 ∧ vs = [] ∧ ∀ H', Q (.bl true) H'

def t_cases (G : Gx) : TS := (tSeq (tAsg (tLst (tCons (tTup (tCons (tC (.str "1=1")) (tCons (tTup tNil) tNil))) (tCons (tTup (tCons (tC (.str "(1)^=(1)~")) (tCons (tTup tNil) tNil))) (tCons (tTup (tCons (tC (.str "zw=xy")) (tCons (tTup (tCons (tC (.str "w")) (tCons (tC (.str "x")) (tCons (tC (.str "y")) (tCons (tC (.str "z")) tNil))))) tNil))) (tCons (tTup (tCons (tC (.str "")) (tCons (tC (.int 0)) tNil))) (tCons (tTup (tCons (tC (.str "=")) (tCons (tC (.int 0)) tNil))) (tCons (tTup (tCons (tC (.str "x=")) (tCons (tC (.int 2)) tNil))) (tCons (tTup (tCons (tC (.str "x")) (tCons (tC (.int 1)) tNil))) tNil)))))))) (gName 2))
  (tSeq (tAsg (tOp (rCatS G.K) (tVar 2) (tLst (tCons (tTup (tCons (tC (.str "1x=x")) (tCons (tC (.int 1)) tNil))) (tCons (tTup (tCons (tC (.str "x1=x")) (tCons (tC (.int 1)) tNil))) (tCons (tTup (tCons (tC (.str "x==x")) (tCons (tC (.int 2)) tNil))) (tCons (tTup (tCons (tC (.str "x=x=x")) (tCons (tC (.int 3)) tNil))) (tCons (tTup (tCons (tC (.str "()=1")) (tCons (tC (.int 1)) tNil))) (tCons (tTup (tCons (tC (.str "^x=x")) (tCons (tC (.int 0)) tNil))) (tCons (tTup (tCons (tC (.str "x=1^")) (tCons (tC (.int 3)) tNil))) tNil))))))))) (gName 2))
  (tSeq (tAsg (tOp (rCatS G.K) (tVar 2) (tLst (tCons (tTup (tCons (tC (.str "(x=x)")) (tCons (tC (.int 2)) tNil))) (tCons (tTup (tCons (tC (.str "x)=x")) (tCons (tC (.int 1)) tNil))) (tCons (tTup (tCons (tC (.str "(x=x")) (tCons (tC (.int 2)) tNil))) (tCons (tTup (tCons (tC (.str "x = x")) (tCons (tC (.int 1)) tNil))) (tCons (tTup (tCons (tC (.str "x=x ")) (tCons (tC (.int 3)) tNil))) (tCons (tTup (tCons (tC (.str "(1x)=x")) (tCons (tC (.int 2)) tNil))) tNil)))))))) (gName 2))
  (tRet (tOp (rEqD G.K) (tLc (iList G.K (tVar 2)) (gTup G.K 2 (gCons (gName 3) (gCons (gName 4) gNil))) (tTest (tOp (rNeD G.K) (tCall (sp__law_said G) [] E0 (tCons (tVar 3) tNil)) (tVar 4))) (tVar 3) [3, 4]) (tLst tNil))))))
theorem pure_cases (T : Txt G) (o : Option V) (H : Hp) (Q : VK) (k : ∀ H', Q (.bl true) H') : t_cases G { nx := fun _ H' => Q .non H', rt := Q } [some (.str (S deepL)), o, none, none, none] H := by
  unfold t_cases
  with_reducible refine w_seq ?_
  with_reducible refine w_asg ?_
  with_reducible refine w_lst ?_
  refine cases_cons (case_tup _ [] (by decide +kernel) (fun _ _ q => q) (by decide +kernel)) (cases_cons (case_tup _ [] (by decide +kernel) (fun _ _ q => q) (by decide +kernel)) (cases_cons (case_tup _ [119, 120, 121, 122] (by decide +kernel) (fun _ _ q => by walk_at "u"; rw [e_wxyz]; exact q) (by decide +kernel))
    (cases_cons (case_int _ _ (by decide +kernel)) (cases_cons (case_int _ _ (by decide +kernel)) (cases_cons (case_int _ _ (by decide +kernel)) (cases_cons (case_int _ _ (by decide +kernel)) cases_nil)))))) _ _ fun vs7 H7 e7 c7 s7 => ?_
  refine ⟨line1000 (by omega), fun q1 hq1 => ?_⟩
  with_reducible refine w_name ?_
  with_reducible refine w_seq ?_
  with_reducible refine w_asg ?_
  with_reducible refine w_op ?_
  with_reducible refine w_var (by with_unfolding_all exact rfl) ?_
  with_reducible refine w_lst ?_
  refine cases_cons (case_int _ _ (by decide +kernel)) (cases_cons (case_int _ _ (by decide +kernel)) (cases_cons (case_int _ _ (by decide +kernel)) (cases_cons (case_int _ _ (by decide +kernel)) (cases_cons (case_int _ _ (by decide +kernel)) (cases_cons (case_int _ _ (by decide +kernel)) (cases_cons (case_int _ _ (by decide +kernel)) cases_nil)))))) _ _ fun vs8 H8 e8 c8 s8 => ?_
  refine ⟨line1000 (by omega), fun q2 hq2 => ?_⟩
  have g8 : H8 q1 = some (.lst vs7) := s8 _ _ upd_same
  refine ⟨q1, q2, vs7, vs8, rfl, rfl, SqL.of (up_new hq2 g8), SqL.of upd_same, line1000 (by omega), fun q3 hq3 => ?_⟩
  have c78 : ∀ v ∈ vs7 ++ vs8, CaseV (upd (upd H8 q2 (.lst vs8)) q3 (.lst (vs7 ++ vs8))) v := fun v hv => by
    have s' : Same H8 (upd (upd H8 q2 (.lst vs8)) q3 (.lst (vs7 ++ vs8))) := same_new (same_new (Same.refl _) hq2) hq3
    rcases List.mem_append.mp hv with hv | hv
    · exact ((c7 v hv).same (same_new (Same.refl _) hq1)).same (s8.trans s')
    · exact (c8 v hv).same s'
  have e78 : (vs7 ++ vs8).length = 14 := by rw [List.length_append, e7, e8]
  generalize vs7 ++ vs8 = us at c78 e78
  with_reducible refine w_name ?_
  with_reducible refine w_seq ?_
  with_reducible refine w_asg ?_
  with_reducible refine w_op ?_
  with_reducible refine w_var (by with_unfolding_all exact rfl) ?_
  with_reducible refine w_lst ?_
  refine cases_cons (case_int _ _ (by decide +kernel)) (cases_cons (case_int _ _ (by decide +kernel)) (cases_cons (case_int _ _ (by decide +kernel)) (cases_cons (case_int _ _ (by decide +kernel)) (cases_cons (case_int _ _ (by decide +kernel)) (cases_cons (case_int _ _ (by decide +kernel)) cases_nil))))) _ _ fun vs9 H9 e9 c9 s9 => ?_
  refine ⟨line1000 (by omega), fun q4 hq4 => ?_⟩
  have g9 : H9 q3 = some (.lst us) := s9 _ _ upd_same
  refine ⟨q3, q4, us, vs9, rfl, rfl, SqL.of (up_new hq4 g9), SqL.of upd_same, line1000 (by omega), fun q5 hq5 => ?_⟩
  have c59 : ∀ v ∈ us ++ vs9, CaseV (upd (upd H9 q4 (.lst vs9)) q5 (.lst (us ++ vs9))) v := fun v hv => by
    have s' : Same H9 (upd (upd H9 q4 (.lst vs9)) q5 (.lst (us ++ vs9))) := same_new (same_new (Same.refl _) hq4) hq5
    rcases List.mem_append.mp hv with hv | hv
    · exact (c78 v hv).same (s9.trans s')
    · exact (c9 v hv).same s'
  have e59 : (us ++ vs9).length = 20 := by rw [List.length_append, e78, e9]
  have g5 : (upd (upd H9 q4 (.lst vs9)) q5 (.lst (us ++ vs9))) q5 = some (.lst (us ++ vs9)) := upd_same
  generalize upd (upd H9 q4 (.lst vs9)) q5 (.lst (us ++ vs9)) = Hc at c59 g5
  generalize us ++ vs9 = ws at c59 e59 g5
  walk_at "u"
  refine ⟨_, rfl, q5, rfl, ⟨_, SqL.of g5⟩, fun Dl hD => ?_⟩
  refine lc_fixR (fixR_list G.K q5 ws) (fun _ Hx => Same Hc Hx ∧ Hx Dl = some (.lst [])) (fun _ _ h => SqL.of (h.1 _ _ g5)) ⟨same_new (Same.refl _) hD, upd_same⟩ (fun i Hx hi hinv => ?_) (fun Hx hinv => ?_)
  · obtain ⟨sx, dx⟩ := hinv
    have hm : ws.getD i .non ∈ ws := by
      rw [List.getD_eq_getElem?_getD, List.getElem?_eq_getElem hi]
      exact List.getElem_mem hi
    obtain ⟨p, t, d, D, ev, hp, hd, hc⟩ := (c59 _ hm).same sx
    rw [ev]
    refine w_gT2 hp ⟨rfl, ?_⟩
    simp only [caseOk, Bool.and_eq_true] at hc
    obtain ⟨⟨hc1, hc2⟩, hc3⟩ := hc
    walk_at "u"
    refine r_saidW t t.cps.toList (S_of t) (of_decide_eq_true hc1) fun v Hy dy sy => ?_
    walk_at "u"
    refine r_eqV dy (hd.same sy).dp hc2 hc3 ?_
    refine ⟨_, rfl, ?_⟩
    exact iteF ⟨sx.trans sy, sy _ _ dx⟩
  · obtain ⟨sx, dx⟩ := hinv
    walk_at "u"
    refine ⟨by show 0 ≤ sizeLine; decide, fun q6 hq6 => ?_⟩
    refine ⟨.list [], .list [], .lst (SqL.of (up_new hq6 dx)) .nil, .lst (SqL.of upd_same) .nil, rfl, rfl, ?_⟩
    exact k _

end
end K81

set_option Elab.async false
set_option linter.all false
set_option maxRecDepth 100000
set_option maxHeartbeats 4000000
namespace K81
open PySem PySem.Spec PyProof.Rows L2 LX M81
local macro_rules | `(tactic| walk_at "hp") => `(tactic| first | assumption | exact upd_same | (refine up_new (by assumption) ?_; walk_at "hp") | (refine up_ne (by first | assumption | (exact Ne.symm (by assumption))) ?_; walk_at "hp") | (refine up_mut (by assumption) (by intro z; cases z) ?_; walk_at "hp"))
local macro_rules | `(tactic| walk_at "w1") => `(tactic| first
  | (with_reducible refine w_seq ?_) | (with_reducible refine w_asg ?_) | (with_reducible refine w_name ?_) | (with_reducible refine w_ret ?_) | (with_reducible refine w_drop ?_) | (with_reducible refine w_ifS ?_)
  | (with_reducible refine w_var (by with_unfolding_all exact rfl) ?_) | (with_reducible refine w_c ?_) | (with_reducible refine w_op ?_) | (with_reducible refine w_test ?_) | (with_reducible refine w_B ?_)
  | (with_reducible refine w_bl ?_) | (with_reducible refine w_cons ?_) | (with_reducible refine w_nil ?_) | (with_reducible refine w_cb ?_) | (with_reducible refine w_call ?_) | (with_reducible refine w_callS ?_)
  | (with_reducible refine w_addI ?_) | (with_reducible refine w_subI ?_) | (with_reducible refine w_ltI ?_) | (with_reducible refine w_leI ?_) | (with_reducible refine w_gtI ?_) | (with_reducible refine w_geI ?_)
  | (with_reducible refine w_tAnd ?_) | (with_reducible refine w_tOr ?_) | (with_reducible refine w_tNot ?_) | (with_reducible refine w_andV ?_) | (with_reducible refine w_orV ?_) | (with_reducible refine w_notV ?_) | (with_reducible refine w_if ?_)
  | (with_reducible refine w_un ?_) | (with_reducible refine w_neg ?_) | (with_reducible refine w_intI ?_) | (with_reducible refine w_intB ?_) | (with_reducible refine w_abs ?_)
  | (with_reducible refine w_eq (by with_unfolding_all exact rfl) ?_) | (with_reducible refine w_ne (by with_unfolding_all exact rfl) ?_) | (with_reducible refine w_isNone ?_) | (with_reducible refine w_notNone ?_)
  | (with_reducible refine w_tup ?_) | (with_reducible refine w_lst ?_) | (with_reducible refine w_sl ?_) | (with_reducible refine w_noPart ?_) | (with_reducible refine w_part ?_) | (with_reducible refine w_partI ?_)
  | (with_reducible refine w_fld0 ?_) | (with_reducible refine w_rz ?_)
  | (with_reducible refine w_next ?_) | (with_reducible refine w_brk ?_) | (with_reducible refine w_cont ?_) | (with_reducible refine w_retN ?_))
local macro_rules | `(tactic| walk_at "w") => `(tactic| repeat walk_at "w1")
local macro_rules | `(tactic| walk_at "u1") => `(tactic| first | walk_at "w1" | (with_reducible refine w_gsub ?_) | (with_reducible refine w_par ?_) | (with_reducible refine w_par3 ?_) | (with_reducible refine w_pr2 ?_) | (with_reducible refine w_pr3 ?_) | (with_reducible refine w_then ?_) | (with_reducible refine w_for ?_) | (with_reducible refine w_rng1 ?_) | (with_reducible refine w_enumS ?_) | (with_reducible refine w_iList ?_) | (with_reducible refine w_iTup ?_) | (with_reducible refine w_iStr ?_) | (with_reducible refine w_make ?_))
local macro_rules | `(tactic| walk_at "u") => `(tactic| repeat walk_at "u1")
section
variable {P : Program} {w : World} {base : Heap} {G : Gx}
def t__law_long_right (G : Gx) (W : WX) : TS :=
  tSeq (tAsg (tOp rAddS (tOp rAddS (tOp rAddS (tOp rRepS (tC (.str "(")) (tC (.int 98))) (tC (.str "x"))) (tOp rRepS (tC (.str ")")) (tC (.int 98)))) (tC (.str "=1"))) (gName 0))
  (tSeq (tIfS (tOr (tTest (tOp (rNeD G.K) (tCall (sp__law_said G) [] E0 (tCons (tVar 0) tNil)) (tTup (tCons (tC (.str "x")) tNil)))) (tOr (tTest (tOp (rNeD G.K) (tCall (sp__law_said G) [] E0 (tCons (tOp rAddS (tC (.str "1=")) (tOp rRepS (tC (.str "x")) (tC (.int 198)))) tNil)) (tTup (tCons (tC (.str "x")) tNil)))) (tTest (tOp (rNeD G.K) (tCall (sp__law_said G) [] E0 (tCons (tOp rAddS (tC (.str "1=")) (tOp rRepS (tC (.str "x")) (tC (.int 199)))) tNil)) (tUn uNeg (tC (.int 1))))))) (tRet (tC (.bl false))) tNext)
  (tSeq (tIfS (tOr (tTest (tOp (rNeD G.K) (tCall (sp__law_said G) [] E0 (tCons (tOp rRepS (tC (.str "(")) (tC (.int 200))) tNil)) (tC (.int 200)))) (tOr (tTest (tOp (rNeD G.K) (tCall (sp__law_said G) [] E0 (tCons (tOp rRepS (tC (.str "(")) (tC (.int 201))) tNil)) (tUn uNeg (tC (.int 1))))) (tTest (tOp (rNeD G.K) (tCall (sp__law_said G) [] E0 (tCons (tOp rAddS (tC (.str "1=z")) (tOp rRepS (tC (.str "^")) (tC (.int 197)))) tNil)) (tTup (tCons (tC (.str "z")) tNil)))))) (tRet (tC (.bl false))) tNext)
  (tSeq (tFor (iTup G.K (tTup (tCons (tC .non) (tCons (tC (.int 5)) (tCons (tLst (tCons (tC (.str "x=x")) tNil)) (tCons (tTup (tCons (tC (.str "x")) (tCons (tC (.str "x")) tNil))) (tCons (tC (.bl true)) (tCons tDNewK (tCons (tLst (tCons (tC (.int 1)) tNil)) tNil))))))))) (gName 1) (tIfS (tTest (tOp (rNeD G.K) (tCall (sp__law_said G) [] E0 (tCons (tVar 1) tNil)) (tUn uNeg (tC (.int 1))))) (tRet (tC (.bl false))) tNext))
  (tSeq (tAsg (tLst (tCons (tTup (tCons (tC (.str "1=1")) (tCons (tTup tNil) tNil))) (tCons (tTup (tCons (tC (.str "(1)^=(1)~")) (tCons (tTup tNil) tNil))) (tCons (tTup (tCons (tC (.str "zw=xy")) (tCons (tTup (tCons (tC (.str "w")) (tCons (tC (.str "x")) (tCons (tC (.str "y")) (tCons (tC (.str "z")) tNil))))) tNil))) (tCons (tTup (tCons (tC (.str "")) (tCons (tC (.int 0)) tNil))) (tCons (tTup (tCons (tC (.str "=")) (tCons (tC (.int 0)) tNil))) (tCons (tTup (tCons (tC (.str "x=")) (tCons (tC (.int 2)) tNil))) (tCons (tTup (tCons (tC (.str "x")) (tCons (tC (.int 1)) tNil))) tNil)))))))) (gName 2))
  (tSeq (tAsg (tOp (rCatS G.K) (tVar 2) (tLst (tCons (tTup (tCons (tC (.str "1x=x")) (tCons (tC (.int 1)) tNil))) (tCons (tTup (tCons (tC (.str "x1=x")) (tCons (tC (.int 1)) tNil))) (tCons (tTup (tCons (tC (.str "x==x")) (tCons (tC (.int 2)) tNil))) (tCons (tTup (tCons (tC (.str "x=x=x")) (tCons (tC (.int 3)) tNil))) (tCons (tTup (tCons (tC (.str "()=1")) (tCons (tC (.int 1)) tNil))) (tCons (tTup (tCons (tC (.str "^x=x")) (tCons (tC (.int 0)) tNil))) (tCons (tTup (tCons (tC (.str "x=1^")) (tCons (tC (.int 3)) tNil))) tNil))))))))) (gName 2))
  (tSeq (tAsg (tOp (rCatS G.K) (tVar 2) (tLst (tCons (tTup (tCons (tC (.str "(x=x)")) (tCons (tC (.int 2)) tNil))) (tCons (tTup (tCons (tC (.str "x)=x")) (tCons (tC (.int 1)) tNil))) (tCons (tTup (tCons (tC (.str "(x=x")) (tCons (tC (.int 2)) tNil))) (tCons (tTup (tCons (tC (.str "x = x")) (tCons (tC (.int 1)) tNil))) (tCons (tTup (tCons (tC (.str "x=x ")) (tCons (tC (.int 3)) tNil))) (tCons (tTup (tCons (tC (.str "(1x)=x")) (tCons (tC (.int 2)) tNil))) tNil)))))))) (gName 2))
  (tRet (tOp (rEqD G.K) (tLc (iList G.K (tVar 2)) (gTup G.K 2 (gCons (gName 3) (gCons (gName 4) gNil))) (tTest (tOp (rNeD G.K) (tCall (sp__law_said G) [] E0 (tCons (tVar 3) tNil)) (tVar 4))) (tVar 3) [3, 4]) (tLst tNil)))))))))
theorem pure__law_long_right (T : Txt G) (vs : List V) (H : Hp) (Q : VK) (E : XK) (h : sp__law_long_right G vs H Q E) : t__law_long_right G (fun cls d _ H => E cls d H) { nx := fun _ H' => Q .non H', rt := Q } (start ["_law_deep", "_law_odd", "_law_some", "_law_text", "_law_due_here"] vs) H := by
  obtain ⟨_, rfl, k⟩ := h
  unfold t__law_long_right
  have rep : ∀ (z : Str) (n : Int) (H : Hp) (Q : VK) (x : Str), 0 ≤ n → n < 1000 → z.length = 1 → S (List.replicate n.toNat z.cps.toList).flatten = x → Q (.str x) H → rRepS (.str z) (.int n) H Q := fun z n H Q x h0 h1 hz e q =>
    ⟨z, n, rfl, rfl, h0, by omega, by rw [hz]; exact line1000 (by omega), by rw [e]; exact q⟩
  walk_at "u"
  refine rep _ _ _ _ (S (List.replicate 98 40)) (by decide +kernel) (by decide +kernel) (by decide +kernel) (by decide +kernel) ?_
  walk_at "u"
  refine w_addS (by decide +kernel) ?_
  walk_at "u"
  refine rep _ _ _ _ (S (List.replicate 98 41)) (by decide +kernel) (by decide +kernel) (by decide +kernel) (by decide +kernel) ?_
  refine w_addS (by decide +kernel) ?_
  walk_at "u"
  refine w_addS (by decide +kernel) ?_
  have ed : S (List.replicate 98 40) ++ ("x" : Str) ++ S (List.replicate 98 41) ++ ("=1" : Str) = S deepL := by decide +kernel
  rw [ed]
  walk_at "u"
  refine r_saidW _ deepL rfl (by decide +kernel) fun v1 H1 d1 s1 => ?_
  walk_at "u"
  refine ⟨by show 1 ≤ sizeLine; decide, fun p1 hp1 => ?_⟩
  refine r_eqV (d1.keep (same_new (Same.refl _) hp1)) (dp_x upd_same) (by decide +kernel) (by decide +kernel) ?_
  walk_at "u"
  refine iteF ?_
  walk_at "u"
  refine rep _ _ _ _ (S (List.replicate 198 120)) (by decide +kernel) (by decide +kernel) (by decide +kernel) (by decide +kernel) ?_
  refine w_addS (by decide +kernel) ?_
  walk_at "u"
  refine r_saidW _ ([49, 61] ++ List.replicate 198 120) (by decide +kernel) (by decide +kernel) fun v2 H2 d2 s2 => ?_
  walk_at "u"
  refine ⟨by show 1 ≤ sizeLine; decide, fun p2 hp2 => ?_⟩
  refine r_eqV (d2.keep (same_new (Same.refl _) hp2)) (dp_x upd_same) (by decide +kernel) (by decide +kernel) ?_
  walk_at "u"
  refine iteF ?_
  walk_at "u"
  refine rep _ _ _ _ (S (List.replicate 199 120)) (by decide +kernel) (by decide +kernel) (by decide +kernel) (by decide +kernel) ?_
  refine w_addS (by decide +kernel) ?_
  walk_at "u"
  refine r_saidL _ ([49, 61] ++ List.replicate 199 120) (by decide +kernel) (by decide +kernel) (by decide +kernel) fun H3 s3 => ?_
  walk_at "u"
  refine r_eqI ?_
  walk_at "u"
  refine iteF ?_
  walk_at "u"
  refine rep _ _ _ _ (S (List.replicate 200 40)) (by decide +kernel) (by decide +kernel) (by decide +kernel) (by decide +kernel) ?_
  walk_at "u"
  refine r_saidW _ (List.replicate 200 40) (by decide +kernel) (by decide +kernel) fun v4 H4 d4 s4 => ?_
  walk_at "u"
  refine r_eqV d4 (.int 200) rfl (by decide +kernel) ?_
  walk_at "u"
  refine iteF ?_
  walk_at "u"
  refine rep _ _ _ _ (S (List.replicate 201 40)) (by decide +kernel) (by decide +kernel) (by decide +kernel) (by decide +kernel) ?_
  walk_at "u"
  refine r_saidL _ (List.replicate 201 40) (by decide +kernel) (by decide +kernel) (by decide +kernel) fun H5 s5 => ?_
  walk_at "u"
  refine r_eqI ?_
  walk_at "u"
  refine iteF ?_
  walk_at "u"
  refine rep _ _ _ _ (S (List.replicate 197 94)) (by decide +kernel) (by decide +kernel) (by decide +kernel) (by decide +kernel) ?_
  refine w_addS (by decide +kernel) ?_
  walk_at "u"
  refine r_saidW _ ([49, 61, 122] ++ List.replicate 197 94) (by decide +kernel) (by decide +kernel) fun v6 H6 d6 s6 => ?_
  walk_at "u"
  refine ⟨by show 1 ≤ sizeLine; decide, fun p6 hp6 => ?_⟩
  refine r_eqV (d6.keep (same_new (Same.refl _) hp6)) (dp_x upd_same) (by decide +kernel) (by decide +kernel) ?_
  walk_at "u"
  refine iteF ?_
  walk_at "u"
  -- the odd ones
  refine ⟨by show 1 ≤ sizeLine; decide, fun a1 ha1 => ?_⟩
  walk_at "u"
  refine ⟨by show 2 ≤ sizeLine; decide, fun a2 ha2 => ?_⟩
  walk_at "u"
  intro a3 ha3
  walk_at "u"
  refine ⟨by show 1 ≤ sizeLine; decide, fun a4 ha4 => ?_⟩
  walk_at "u"
  refine ⟨by show 7 ≤ sizeLine; decide, fun a5 ha5 => ?_⟩
  refine ⟨a5, rfl, ⟨_, SqT.of upd_same⟩, ?_⟩
  generalize hH : upd (upd (upd (upd (upd _ a1 _) a2 _) a3 _) a4 _) a5 _ = Hodd
  have o5 : Hodd a5 = some (.tup [.non, .int 5, .ref a1, .ref a2, .bl true, .ref a3, .ref a4]) := by rw [← hH]; exact upd_same
  have o4 : Hodd a4 = some (.lst [.int 1]) := by rw [← hH]; exact up_new ha5 upd_same
  have o3 : Hodd a3 = some (.dK []) := by rw [← hH]; exact up_new ha5 (up_new ha4 upd_same)
  have o2 : Hodd a2 = some (.tup [.str "x", .str "x"]) := by rw [← hH]; exact up_new ha5 (up_new ha4 (up_new ha3 upd_same))
  have o1 : Hodd a1 = some (.lst [.str "x=x"]) := by rw [← hH]; exact up_new ha5 (up_new ha4 (up_new ha3 (up_new ha2 upd_same)))
  refine for_fixR (fixR_tup G.K a5 [.non, .int 5, .ref a1, .ref a2, .bl true, .ref a3, .ref a4]) (fun _ σ H' => (∃ o : Option V, σ = [some (.str (S deepL)), o, none, none, none]) ∧ Same Hodd H') (fun _ _ _ h => SqT.of (h.2 _ _ o5)) ⟨⟨_, rfl⟩, Same.refl _⟩ (fun i σ Ha hi hinv => ?_) (fun σ Ha hinv => ?_)
  · obtain ⟨⟨o, rfl⟩, sa⟩ := hinv
    have hi : i < 7 := hi
    have ty : ∃ t, TyX G.K Ha (([.non, .int 5, .ref a1, .ref a2, .bl true, .ref a3, .ref a4] : List V).getD i .non) (.type t) ∧ kitB t "str" = some false := by
      have : i = 0 ∨ i = 1 ∨ i = 2 ∨ i = 3 ∨ i = 4 ∨ i = 5 ∨ i = 6 := by omega
      rcases this with rfl | rfl | rfl | rfl | rfl | rfl | rfl
      · exact ⟨_, .base .non, by decide +kernel⟩
      · exact ⟨_, .base (.int 5), by decide +kernel⟩
      · exact ⟨_, .base (.lst (sa _ _ o1)), by decide +kernel⟩
      · exact ⟨_, .base (.tup (sa _ _ o2)), by decide +kernel⟩
      · exact ⟨_, .base (.bl true), by decide +kernel⟩
      · exact ⟨_, .base (.dK (sa _ _ o3)), by decide +kernel⟩
      · exact ⟨_, .base (.lst (sa _ _ o4)), by decide +kernel⟩
    obtain ⟨t, ty, hk⟩ := ty
    walk_at "u"
    refine r_saidT ty hk fun Hb sb => ?_
    walk_at "u"
    refine r_eqI ?_
    walk_at "u"
    refine iteF ?_
    walk_at "u"
    exact ⟨⟨_, rfl⟩, sa.trans sb⟩
  obtain ⟨⟨o, rfl⟩, sa⟩ := hinv
  exact pure_cases T o Ha Q k
theorem ok__law_long_right (T : Txt G) : FnOk P w G.K G.mg base (L2.CX P w) 153 G.f__law_long_right G.d__law_long_right [] (sp__law_long_right G) := by
  refine T.F__law_long_right.okX sc__law_long_right (fun _ _ _ _ h => h.1) (fun cdv A outer s H vs Q E hr h => ⟨t__law_long_right G (fun cls d _ H => E cls d H), ?_, pure__law_long_right T vs H Q E h⟩)
  have tk : Takes (cxOf (L2.CX P w) P w G.K G.mg base ["_law_deep", "_law_odd", "_law_some", "_law_text", "_law_due_here"] "_law_long_right" (defScope s__law_long_right) G.f__law_long_right cdv A outer s H E) (fun cls d _ H => E cls d H) := takes_of rfl rfl rfl rfl
  exact (pss_cons (ps_set (i := 0) sc__law_long_right.nd rfl (by first | exact Or.inl rfl | exact Or.inr rfl) (pe_op o_addS (pe_op o_addS (pe_op o_addS (pe_op op_repS pe_str pe_int) pe_str) (pe_op op_repS pe_str pe_int)) pe_str))
    (pss_cons (ps_if (PW.pt (pw_or (pt_cmpR (op_neD (hu64 hr)) (pe_call (ok__law_said T) (hr.mono (by decide)) rfl T.g__law_said T.F__law_said.kp T.b__law_said .nil passL (pa_cons (pv 0) pa_nil)) (pe_tup (pa_cons pe_str pa_nil)) (nomark _)) (pw_or (pt_cmpR (op_neD (hu64 hr)) (pe_call (ok__law_said T) (hr.mono (by decide)) rfl T.g__law_said T.F__law_said.kp T.b__law_said .nil passL (pa_cons (pe_op o_addS pe_str (pe_op op_repS pe_str pe_int)) pa_nil)) (pe_tup (pa_cons pe_str pa_nil)) (nomark _)) (pw_or1 (pt_cmpR (op_neD (hu64 hr)) (pe_call (ok__law_said T) (hr.mono (by decide)) rfl T.g__law_said T.F__law_said.kp T.b__law_said .nil passL (pa_cons (pe_op o_addS pe_str (pe_op op_repS pe_str pe_int)) pa_nil)) (pe_un u_neg pe_int) (nomark _)))))) (pss_one (ps_ret pe_bl)) pss_nil)
    (pss_cons (ps_if (PW.pt (pw_or (pt_cmpR (op_neD (hu64 hr)) (pe_call (ok__law_said T) (hr.mono (by decide)) rfl T.g__law_said T.F__law_said.kp T.b__law_said .nil passL (pa_cons (pe_op op_repS pe_str pe_int) pa_nil)) pe_int (nomark _)) (pw_or (pt_cmpR (op_neD (hu64 hr)) (pe_call (ok__law_said T) (hr.mono (by decide)) rfl T.g__law_said T.F__law_said.kp T.b__law_said .nil passL (pa_cons (pe_op op_repS pe_str pe_int) pa_nil)) (pe_un u_neg pe_int) (nomark _)) (pw_or1 (pt_cmpR (op_neD (hu64 hr)) (pe_call (ok__law_said T) (hr.mono (by decide)) rfl T.g__law_said T.F__law_said.kp T.b__law_said .nil passL (pa_cons (pe_op o_addS pe_str (pe_op op_repS pe_str pe_int)) pa_nil)) (pe_tup (pa_cons pe_str pa_nil)) (nomark _)))))) (pss_one (ps_ret pe_bl)) pss_nil)
    (pss_cons (ps_for (passes_of rfl) rfl (pi_tup (pe_tup (pa_cons pe_non (pa_cons pe_int (pa_cons (pe_lst (pa_cons pe_str pa_nil)) (pa_cons (pe_tup (pa_cons pe_str (pa_cons pe_str pa_nil))) (pa_cons pe_bl (pa_cons pe_dnewK (pa_cons (pe_lst (pa_cons pe_int pa_nil)) pa_nil))))))))) (pg_name (i := 1) sc__law_long_right.nd rfl (by first | exact Or.inl rfl | exact Or.inr rfl)) (pss_one (ps_if (pt_cmpR (op_neD (hu64 hr)) (pe_call (ok__law_said T) (hr.mono (by decide)) rfl T.g__law_said T.F__law_said.kp T.b__law_said .nil passL (pa_cons (pv 1) pa_nil)) (pe_un u_neg pe_int) (nomark _)) (pss_one (ps_ret pe_bl)) pss_nil)))
    (pss_cons (ps_set (i := 2) sc__law_long_right.nd rfl (by first | exact Or.inl rfl | exact Or.inr rfl) (pe_lst (pa_cons (pe_tup (pa_cons pe_str (pa_cons (pe_tup pa_nil) pa_nil))) (pa_cons (pe_tup (pa_cons pe_str (pa_cons (pe_tup pa_nil) pa_nil))) (pa_cons (pe_tup (pa_cons pe_str (pa_cons (pe_tup (pa_cons pe_str (pa_cons pe_str (pa_cons pe_str (pa_cons pe_str pa_nil))))) pa_nil))) (pa_cons (pe_tup (pa_cons pe_str (pa_cons pe_int pa_nil))) (pa_cons (pe_tup (pa_cons pe_str (pa_cons pe_int pa_nil))) (pa_cons (pe_tup (pa_cons pe_str (pa_cons pe_int pa_nil))) (pa_cons (pe_tup (pa_cons pe_str (pa_cons pe_int pa_nil))) pa_nil)))))))))
    (pss_cons (ps_set (i := 2) sc__law_long_right.nd rfl (by first | exact Or.inl rfl | exact Or.inr rfl) (pe_op op_catS (pv 2) (pe_lst (pa_cons (pe_tup (pa_cons pe_str (pa_cons pe_int pa_nil))) (pa_cons (pe_tup (pa_cons pe_str (pa_cons pe_int pa_nil))) (pa_cons (pe_tup (pa_cons pe_str (pa_cons pe_int pa_nil))) (pa_cons (pe_tup (pa_cons pe_str (pa_cons pe_int pa_nil))) (pa_cons (pe_tup (pa_cons pe_str (pa_cons pe_int pa_nil))) (pa_cons (pe_tup (pa_cons pe_str (pa_cons pe_int pa_nil))) (pa_cons (pe_tup (pa_cons pe_str (pa_cons pe_int pa_nil))) pa_nil))))))))))
    (pss_cons (ps_set (i := 2) sc__law_long_right.nd rfl (by first | exact Or.inl rfl | exact Or.inr rfl) (pe_op op_catS (pv 2) (pe_lst (pa_cons (pe_tup (pa_cons pe_str (pa_cons pe_int pa_nil))) (pa_cons (pe_tup (pa_cons pe_str (pa_cons pe_int pa_nil))) (pa_cons (pe_tup (pa_cons pe_str (pa_cons pe_int pa_nil))) (pa_cons (pe_tup (pa_cons pe_str (pa_cons pe_int pa_nil))) (pa_cons (pe_tup (pa_cons pe_str (pa_cons pe_int pa_nil))) (pa_cons (pe_tup (pa_cons pe_str (pa_cons pe_int pa_nil))) pa_nil)))))))))
    (pss_one (ps_ret (pe_cmpR (op_eqD (hu64 hr)) (pe_lc (own := [("_law_text", 3), ("_law_due_here", 4)]) (g := (gTup G.K 2 (gCons (gName 3) (gCons (gName 4) gNil)))) (tt := tTest (tOp (rNeD G.K) (tCall (sp__law_said G) [] E0 (tCons (tVar 3) tNil)) (tVar 4))) rfl sc__law_long_right.nd (pi_list (pv 2)) (blkOk_by (N := ["_law_deep", "_law_odd", "_law_some", "_law_text", "_law_due_here"]) (sc := defScope s__law_long_right) (by decide +kernel)) (fun _ _ _ _ _ => pg_tup rfl (pgs_cons (pg_name (i := 3) sc__law_long_right.nd rfl (by first | exact Or.inl rfl | exact Or.inr rfl)) (pgs_cons (pg_name (i := 4) sc__law_long_right.nd rfl (by first | exact Or.inl rfl | exact Or.inr rfl)) pgs_nil))) (fun _ _ _ _ _ => pts_one (pt_cmpR (op_neD (hu64 hr)) (pe_call (ok__law_said T) (hr.mono (by decide)) rfl T.g__law_said T.F__law_said.kp T.b__law_said .nil passL (pa_cons (pv 3) pa_nil)) (pv 4) (nomark _))) (fun _ _ _ _ _ => pv 3)) (pe_lst pa_nil) (nomark _)))))))))))

/-! the law -/
/-- the law: at most 63 allI in, True out -/
def sp_lawK (K : PySem.W.Frag) : Sp := fun vs H Q _ => vs.length = 1 ∧ ∃ (a : Addr) (ns : List Int), vs = [.ref a] ∧ SqL K H a (ns.map V.int) ∧ ns.length ≤ 63 ∧ ∀ H', Q (.bl true) H'
def sp_law (G : Gx) := sp_lawK G.K
def t_law (G : Gx) (W : WX) : TS :=
  tSeq (tFor (iList G.K (tSl (rSlL G.K) (tOp (rCatS G.K) (tVar 0) (tLst (tCons (tC (.int 0)) tNil))) tNoPart (tPart (tC (.int 4))))) (gName 1) (tSeq (tAsg (tCall (sp__law_source G) [] E0 (tCons (tVar 1) tNil)) (gName 2))
  (tFor (iRng1 (tCons (tC (.int 8)) tNil)) (gName 3) (tIfS (tNot (tB (tCall (sp__law_right G) [] E0 (tCons (tVar 2) tNil)))) (tRet (tC (.bl false))) tNext))))
  (tRet (tCall (sp__law_long_right G) [] E0 tNil))
theorem sqL_same {K : PySem.W.Frag} {H H' : Hp} {a : Addr} {xs : List V} (h : SqL K H a xs) (s : Same H H') : SqL K H' a xs := by
  rcases h with (h | ⟨o, h⟩) | h
  · exact .inl (.inl (s _ _ h))
  · exact .inl (.inr ⟨o, s _ _ h⟩)
  · exact .inr h
theorem cutV_mem {xs : List V} {lo hi : Option Int} {v : V} (h : v ∈ cutV xs lo hi) : v ∈ xs := List.mem_of_mem_drop (List.mem_of_mem_take h)
theorem pure_law (T : Txt G) (vs : List V) (H : Hp) (Q : VK) (E : XK) (h : sp_law G vs H Q E) : t_law G (fun cls d _ H => E cls d H) { nx := fun _ H' => Q .non H', rt := Q } (start ["_law_script", "_law_cell", "_law_source_here", "_law_turn"] vs) H := by
  obtain ⟨_, a, ns, rfl, ha, hn, k⟩ := h
  unfold t_law
  walk_at "u"
  refine ⟨by show 1 ≤ sizeLine; decide, fun p1 hp1 => ?_⟩
  refine ⟨a, p1, ns.map V.int, [.int 0], rfl, rfl, sqL_same ha (same_new (Same.refl H) hp1), SqL.of upd_same, line1000 (by rw [List.length_map]; show _ + 1 ≤ _; omega), fun p2 hp2 => ?_⟩
  walk_at "u"
  refine ⟨p2, _, rfl, SqL.of upd_same, fun q hq => ?_⟩
  have allI : ∀ v ∈ cutV (ns.map V.int ++ [.int 0]) none (some 4), ∃ i, v = .int i := fun v hv => by
    rcases List.mem_append.mp (cutV_mem hv) with hv | hv
    · obtain ⟨i, _, rfl⟩ := List.mem_map.mp hv
      exact ⟨i, rfl⟩
    · exact ⟨0, by simpa using hv⟩
  generalize cutV (ns.map V.int ++ [.int 0]) none (some 4) = xs at allI
  refine ⟨q, rfl, ⟨xs, SqL.of upd_same⟩, ?_⟩
  refine for_fixR (fixR_list G.K q xs) (fun _ σ H' => (∃ x b c d : Option V, σ = [x, b, c, d]) ∧ H' q = some (.lst xs)) (fun _ _ _ h => SqL.of h.2) ⟨⟨_, _, _, _, rfl⟩, upd_same⟩ (fun i σ Ha hi hinv => ?_) (fun σ Ha hinv => ?_)
  · obtain ⟨⟨x, b, c, d, rfl⟩, hqa⟩ := hinv
    have hm : xs.getD i .non ∈ xs := by
      rw [List.getD_eq_getElem?_getD, List.getElem?_eq_getElem hi]
      exact List.getElem_mem hi
    obtain ⟨z, ez⟩ := allI _ hm
    rw [ez]
    walk_at "u"
    refine ⟨rfl, z, rfl, fun s Hb ns' ss sb => ?_⟩
    walk_at "u"
    have qs : q ≠ s := ne_of_none hqa ns'
    refine ⟨_, rfl, by decide, by decide, ?_⟩
    refine for_fix (fix_rng 0 (8 : Int).toNat) (fun _ σ H' => (∃ x b d : Option V, σ = [x, b, some (.ref s), d]) ∧ H' q = some (.lst xs) ∧ SrcAt H' s) ⟨⟨_, _, _, rfl⟩, sb _ _ hqa, ss⟩ (fun j σ Hc hj hinv => ?_) (fun σ Hc hinv => ?_)
    · obtain ⟨⟨x, b, d, rfl⟩, hqc, sc⟩ := hinv
      walk_at "u"
      refine ⟨rfl, s, rfl, sc, fun Hd sd bd => ?_⟩
      refine ⟨_, rfl, ?_⟩
      refine iteF ?_
      walk_at "u"
      exact ⟨⟨_, _, _, rfl⟩, bd _ _ hqc qs, sd⟩
    · obtain ⟨⟨x, b, d, rfl⟩, hqc, sc⟩ := hinv
      exact ⟨⟨_, _, _, _, rfl⟩, hqc⟩
  · obtain ⟨⟨x, b, c, d, rfl⟩, hqa⟩ := hinv
    walk_at "u"
    exact ⟨rfl, rfl, k⟩
theorem ok_law (T : Txt G) : FnOk P w G.K G.mg base (L2.CX P w) 160 G.f_law G.d_law ["_law_script"] (sp_law G) := by
  refine T.F_law.okX sc_law (fun _ _ _ _ h => h.1) (fun cdv A outer s H vs Q E hr h => ⟨t_law G (fun cls d _ H => E cls d H), ?_, pure_law T vs H Q E h⟩)
  have tk : Takes (cxOf (L2.CX P w) P w G.K G.mg base ["_law_script", "_law_cell", "_law_source_here", "_law_turn"] "law" (defScope s_law) G.f_law cdv A outer s H E) (fun cls d _ H => E cls d H) := takes_of rfl rfl rfl rfl
  exact (pss_cons (ps_for (passes_of rfl) rfl (pi_list (pe_slice sl_list (pe_op op_catS (pv 0) (pe_lst (pa_cons pe_int pa_nil))) po_none (po_some pe_int))) (pg_name (i := 1) sc_law.nd rfl (by first | exact Or.inl rfl | exact Or.inr rfl)) (pss_cons (ps_set (i := 2) sc_law.nd rfl (by first | exact Or.inl rfl | exact Or.inr rfl) (pe_call (ok__law_source T) (hr.mono (by decide)) rfl T.g__law_source T.F__law_source.kp T.b__law_source .nil passL (pa_cons (pv 1) pa_nil)))
    (pss_one (ps_for (passes_of rfl) rfl (pi_range1 rfl T.n_range (pa_cons pe_int pa_nil)) (pg_name (i := 3) sc_law.nd rfl (by first | exact Or.inl rfl | exact Or.inr rfl)) (pss_one (ps_if (pt_not (pt_val (pe_call (ok__law_right T) (hr.mono (by decide)) rfl T.g__law_right T.F__law_right.kp T.b__law_right .nil passL (pa_cons (pv 2) pa_nil)))) (pss_one (ps_ret pe_bl)) pss_nil))))))
    (pss_one (ps_ret (pe_call0 (ok__law_long_right T) (hr.mono (by decide)) rfl T.g__law_long_right T.F__law_long_right.kp T.b__law_long_right .nil passL))))

end
end K81

set_option Elab.async false
set_option linter.all false
set_option maxRecDepth 100000
set_option maxHeartbeats 4000000
namespace K81
open PySem PySem.Spec PyProof.Rows L2 LX
theorem sp_law_start {K : PySem.W.Frag} {H : Hp} {a : Addr} {ns : List Int} (h1 : ns.length ≤ 63) (h : SqL K H a (ns.map V.int)) : sp_lawK K [.ref a] H (fun v _ => v = .bl true) fun _ _ _ => False := ⟨rfl, a, ns, rfl, h, h1, fun _ => rfl⟩
theorem cx_none {P : Program} {w : World} {H : Hp} {s : Shared} {e : Value} {s' : Shared} (h : L2.CX P w [] H s (fun _ _ _ => False) e s') : False := by
  obtain ⟨_, _, _, _, _, _, _, _, _, _, _, _, z⟩ := h
  exact z
theorem law_end {P : Program} {w : World} {K : PySem.W.Frag} {h : Heap} {mg : Str → Option Value} (X : K.In h) (Ns : h.Ns mainGlobals mg)
    {f_NoTerm_init : Addr} {od_NoTerm_init an_NoTerm_init : Option Addr} {sl_NoTerm_init : Array (Option Value)} {oc_NoTerm_init kV_NoTerm_init dc_NoTerm_init pm_NoTerm_init cd_NoTerm_init ct_NoTerm_init : Value}
    {f_Reader_init : Addr} {od_Reader_init an_Reader_init : Option Addr} {sl_Reader_init : Array (Option Value)} {oc_Reader_init kV_Reader_init dc_Reader_init pm_Reader_init cd_Reader_init ct_Reader_init : Value}
    {f_Reader_sign : Addr} {od_Reader_sign an_Reader_sign : Option Addr} {sl_Reader_sign : Array (Option Value)} {oc_Reader_sign kV_Reader_sign dc_Reader_sign pm_Reader_sign cd_Reader_sign ct_Reader_sign : Value}
    {f_Reader_demand : Addr} {od_Reader_demand an_Reader_demand : Option Addr} {sl_Reader_demand : Array (Option Value)} {oc_Reader_demand kV_Reader_demand dc_Reader_demand pm_Reader_demand cd_Reader_demand ct_Reader_demand : Value}
    {f_Reader_is_factor : Addr} {od_Reader_is_factor an_Reader_is_factor : Option Addr} {sl_Reader_is_factor : Array (Option Value)} {oc_Reader_is_factor kV_Reader_is_factor dc_Reader_is_factor pm_Reader_is_factor cd_Reader_is_factor ct_Reader_is_factor : Value}
    {f_Reader_term : Addr} {od_Reader_term an_Reader_term : Option Addr} {sl_Reader_term : Array (Option Value)} {oc_Reader_term kV_Reader_term dc_Reader_term pm_Reader_term cd_Reader_term ct_Reader_term : Value}
    {f_Reader_power : Addr} {od_Reader_power an_Reader_power : Option Addr} {sl_Reader_power : Array (Option Value)} {oc_Reader_power kV_Reader_power dc_Reader_power pm_Reader_power cd_Reader_power ct_Reader_power : Value}
    {f_two_terms : Addr} {od_two_terms an_two_terms : Option Addr} {sl_two_terms : Array (Option Value)} {oc_two_terms kV_two_terms dc_two_terms pm_two_terms cd_two_terms ct_two_terms : Value}
    {f_names_in : Addr} {od_names_in an_names_in : Option Addr} {sl_names_in : Array (Option Value)} {oc_names_in kV_names_in dc_names_in pm_names_in cd_names_in ct_names_in : Value}
    {f_read_identity : Addr} {od_read_identity an_read_identity : Option Addr} {sl_read_identity : Array (Option Value)} {oc_read_identity kV_read_identity dc_read_identity pm_read_identity cd_read_identity ct_read_identity : Value}
    {f__law_source : Addr} {od__law_source an__law_source : Option Addr} {sl__law_source : Array (Option Value)} {oc__law_source kV__law_source dc__law_source pm__law_source cd__law_source ct__law_source : Value}
    {f__law_draw : Addr} {od__law_draw an__law_draw : Option Addr} {sl__law_draw : Array (Option Value)} {oc__law_draw kV__law_draw dc__law_draw pm__law_draw cd__law_draw ct__law_draw : Value}
    {f__law_pick : Addr} {od__law_pick an__law_pick : Option Addr} {sl__law_pick : Array (Option Value)} {oc__law_pick kV__law_pick dc__law_pick pm__law_pick cd__law_pick ct__law_pick : Value}
    {f__law_term : Addr} {od__law_term an__law_term : Option Addr} {sl__law_term : Array (Option Value)} {oc__law_term kV__law_term dc__law_term pm__law_term cd__law_term ct__law_term : Value}
    {f__law_is_open : Addr} {od__law_is_open an__law_is_open : Option Addr} {sl__law_is_open : Array (Option Value)} {oc__law_is_open kV__law_is_open dc__law_is_open pm__law_is_open cd__law_is_open ct__law_is_open : Value}
    {f__law_fault : Addr} {od__law_fault an__law_fault : Option Addr} {sl__law_fault : Array (Option Value)} {oc__law_fault kV__law_fault dc__law_fault pm__law_fault cd__law_fault ct__law_fault : Value}
    {f__law_said : Addr} {od__law_said an__law_said : Option Addr} {sl__law_said : Array (Option Value)} {oc__law_said kV__law_said dc__law_said pm__law_said cd__law_said ct__law_said : Value}
    {f__law_due : Addr} {od__law_due an__law_due : Option Addr} {sl__law_due : Array (Option Value)} {oc__law_due kV__law_due dc__law_due pm__law_due cd__law_due ct__law_due : Value}
    {f__law_right : Addr} {od__law_right an__law_right : Option Addr} {sl__law_right : Array (Option Value)} {oc__law_right kV__law_right dc__law_right pm__law_right cd__law_right ct__law_right : Value}
    {f__law_long_right : Addr} {od__law_long_right an__law_long_right : Option Addr} {sl__law_long_right : Array (Option Value)} {oc__law_long_right kV__law_long_right dc__law_long_right pm__law_long_right cd__law_long_right ct__law_long_right : Value}
    {f_law : Addr} {od_law an_law : Option Addr} {sl_law : Array (Option Value)} {oc_law kV_law dc_law pm_law cd_law ct_law : Value}
    {c_Reader : Addr}
    {c_NoTerm : Addr}
    {nm_NoTerm q_NoTerm : Str} {N_NoTerm : Addr} {bs_NoTerm bm_NoTerm : List Value} {sn_NoTerm : List Str} {sub_NoTerm : List Value} {ab_NoTerm : Bool} {col_NoTerm : Option Bool} {dd_NoTerm : Option Addr} {m0_NoTerm m1_NoTerm m2_NoTerm m3_NoTerm m5_NoTerm : Option Value}
    {c_FoldError : Addr}
    {u_NAMES : Value}
    {u_MOST_TEXT : Value}
    (a_NoTerm_init : PySem.W.findIn K (.ref c_NoTerm) "__init__" = some (some (.ref f_NoTerm_init)))
    (t_NoTerm_init : PySem.W.typeIn K (.ref f_NoTerm_init) = some (.type "function"))
    (l_NoTerm_init : K.lookup f_NoTerm_init = some ⟨oc_NoTerm_init, od_NoTerm_init, .func (PySem.W.fnOf "__init__" "NoTerm.__init__" (defArgs s_NoTerm_init) (defBody s_NoTerm_init) (defScope s_NoTerm_init) .none kV_NoTerm_init dc_NoTerm_init pm_NoTerm_init an_NoTerm_init cd_NoTerm_init ct_NoTerm_init), sl_NoTerm_init⟩)
    (e_NoTerm_init : PySem.W.codeIn K cd_NoTerm_init "NoTerm.__init__" = true)
    (k_NoTerm_init : PySem.W.keepIn K (.ref f_NoTerm_init) = true)
    (a_Reader_init : PySem.W.findIn K (.ref c_Reader) "__init__" = some (some (.ref f_Reader_init)))
    (i_Reader_init : PySem.W.isFn K (.ref f_Reader_init) = true)
    (l_Reader_init : K.lookup f_Reader_init = some ⟨oc_Reader_init, od_Reader_init, .func (PySem.W.fnOf "__init__" "Reader.__init__" (defArgs s_Reader_init) (defBody s_Reader_init) (defScope s_Reader_init) .none kV_Reader_init dc_Reader_init pm_Reader_init an_Reader_init cd_Reader_init ct_Reader_init), sl_Reader_init⟩)
    (e_Reader_init : PySem.W.codeIn K cd_Reader_init "Reader.__init__" = true)
    (k_Reader_init : PySem.W.keepIn K (.ref f_Reader_init) = true)
    (a_Reader_sign : PySem.W.findIn K (.ref c_Reader) "sign" = some (some (.ref f_Reader_sign)))
    (i_Reader_sign : PySem.W.isFn K (.ref f_Reader_sign) = true)
    (l_Reader_sign : K.lookup f_Reader_sign = some ⟨oc_Reader_sign, od_Reader_sign, .func (PySem.W.fnOf "sign" "Reader.sign" (defArgs s_Reader_sign) (defBody s_Reader_sign) (defScope s_Reader_sign) .none kV_Reader_sign dc_Reader_sign pm_Reader_sign an_Reader_sign cd_Reader_sign ct_Reader_sign), sl_Reader_sign⟩)
    (e_Reader_sign : PySem.W.codeIn K cd_Reader_sign "Reader.sign" = true)
    (k_Reader_sign : PySem.W.keepIn K (.ref f_Reader_sign) = true)
    (a_Reader_demand : PySem.W.findIn K (.ref c_Reader) "demand" = some (some (.ref f_Reader_demand)))
    (i_Reader_demand : PySem.W.isFn K (.ref f_Reader_demand) = true)
    (l_Reader_demand : K.lookup f_Reader_demand = some ⟨oc_Reader_demand, od_Reader_demand, .func (PySem.W.fnOf "demand" "Reader.demand" (defArgs s_Reader_demand) (defBody s_Reader_demand) (defScope s_Reader_demand) .none kV_Reader_demand dc_Reader_demand pm_Reader_demand an_Reader_demand cd_Reader_demand ct_Reader_demand), sl_Reader_demand⟩)
    (e_Reader_demand : PySem.W.codeIn K cd_Reader_demand "Reader.demand" = true)
    (k_Reader_demand : PySem.W.keepIn K (.ref f_Reader_demand) = true)
    (a_Reader_is_factor : PySem.W.findIn K (.ref c_Reader) "is_factor" = some (some (.ref f_Reader_is_factor)))
    (i_Reader_is_factor : PySem.W.isFn K (.ref f_Reader_is_factor) = true)
    (l_Reader_is_factor : K.lookup f_Reader_is_factor = some ⟨oc_Reader_is_factor, od_Reader_is_factor, .func (PySem.W.fnOf "is_factor" "Reader.is_factor" (defArgs s_Reader_is_factor) (defBody s_Reader_is_factor) (defScope s_Reader_is_factor) .none kV_Reader_is_factor dc_Reader_is_factor pm_Reader_is_factor an_Reader_is_factor cd_Reader_is_factor ct_Reader_is_factor), sl_Reader_is_factor⟩)
    (e_Reader_is_factor : PySem.W.codeIn K cd_Reader_is_factor "Reader.is_factor" = true)
    (k_Reader_is_factor : PySem.W.keepIn K (.ref f_Reader_is_factor) = true)
    (a_Reader_term : PySem.W.findIn K (.ref c_Reader) "term" = some (some (.ref f_Reader_term)))
    (i_Reader_term : PySem.W.isFn K (.ref f_Reader_term) = true)
    (l_Reader_term : K.lookup f_Reader_term = some ⟨oc_Reader_term, od_Reader_term, .func (PySem.W.fnOf "term" "Reader.term" (defArgs s_Reader_term) (defBody s_Reader_term) (defScope s_Reader_term) .none kV_Reader_term dc_Reader_term pm_Reader_term an_Reader_term cd_Reader_term ct_Reader_term), sl_Reader_term⟩)
    (e_Reader_term : PySem.W.codeIn K cd_Reader_term "Reader.term" = true)
    (k_Reader_term : PySem.W.keepIn K (.ref f_Reader_term) = true)
    (a_Reader_power : PySem.W.findIn K (.ref c_Reader) "power" = some (some (.ref f_Reader_power)))
    (i_Reader_power : PySem.W.isFn K (.ref f_Reader_power) = true)
    (l_Reader_power : K.lookup f_Reader_power = some ⟨oc_Reader_power, od_Reader_power, .func (PySem.W.fnOf "power" "Reader.power" (defArgs s_Reader_power) (defBody s_Reader_power) (defScope s_Reader_power) .none kV_Reader_power dc_Reader_power pm_Reader_power an_Reader_power cd_Reader_power ct_Reader_power), sl_Reader_power⟩)
    (e_Reader_power : PySem.W.codeIn K cd_Reader_power "Reader.power" = true)
    (k_Reader_power : PySem.W.keepIn K (.ref f_Reader_power) = true)
    (a_two_terms : PySem.W.nsIn K mainGlobals "two_terms" = some (some (.ref f_two_terms)))
    (l_two_terms : K.lookup f_two_terms = some ⟨oc_two_terms, od_two_terms, .func (PySem.W.fnOf "two_terms" "two_terms" (defArgs s_two_terms) (defBody s_two_terms) (defScope s_two_terms) .none kV_two_terms dc_two_terms pm_two_terms an_two_terms cd_two_terms ct_two_terms), sl_two_terms⟩)
    (e_two_terms : PySem.W.codeIn K cd_two_terms "two_terms" = true)
    (k_two_terms : PySem.W.keepIn K (.ref f_two_terms) = true)
    (a_names_in : PySem.W.nsIn K mainGlobals "names_in" = some (some (.ref f_names_in)))
    (l_names_in : K.lookup f_names_in = some ⟨oc_names_in, od_names_in, .func (PySem.W.fnOf "names_in" "names_in" (defArgs s_names_in) (defBody s_names_in) (defScope s_names_in) .none kV_names_in dc_names_in pm_names_in an_names_in cd_names_in ct_names_in), sl_names_in⟩)
    (e_names_in : PySem.W.codeIn K cd_names_in "names_in" = true)
    (k_names_in : PySem.W.keepIn K (.ref f_names_in) = true)
    (a_read_identity : PySem.W.nsIn K mainGlobals "read_identity" = some (some (.ref f_read_identity)))
    (l_read_identity : K.lookup f_read_identity = some ⟨oc_read_identity, od_read_identity, .func (PySem.W.fnOf "read_identity" "read_identity" (defArgs s_read_identity) (defBody s_read_identity) (defScope s_read_identity) .none kV_read_identity dc_read_identity pm_read_identity an_read_identity cd_read_identity ct_read_identity), sl_read_identity⟩)
    (e_read_identity : PySem.W.codeIn K cd_read_identity "read_identity" = true)
    (k_read_identity : PySem.W.keepIn K (.ref f_read_identity) = true)
    (a__law_source : PySem.W.nsIn K mainGlobals "_law_source" = some (some (.ref f__law_source)))
    (l__law_source : K.lookup f__law_source = some ⟨oc__law_source, od__law_source, .func (PySem.W.fnOf "_law_source" "_law_source" (defArgs s__law_source) (defBody s__law_source) (defScope s__law_source) .none kV__law_source dc__law_source pm__law_source an__law_source cd__law_source ct__law_source), sl__law_source⟩)
    (e__law_source : PySem.W.codeIn K cd__law_source "_law_source" = true)
    (k__law_source : PySem.W.keepIn K (.ref f__law_source) = true)
    (a__law_draw : PySem.W.nsIn K mainGlobals "_law_draw" = some (some (.ref f__law_draw)))
    (l__law_draw : K.lookup f__law_draw = some ⟨oc__law_draw, od__law_draw, .func (PySem.W.fnOf "_law_draw" "_law_draw" (defArgs s__law_draw) (defBody s__law_draw) (defScope s__law_draw) .none kV__law_draw dc__law_draw pm__law_draw an__law_draw cd__law_draw ct__law_draw), sl__law_draw⟩)
    (e__law_draw : PySem.W.codeIn K cd__law_draw "_law_draw" = true)
    (k__law_draw : PySem.W.keepIn K (.ref f__law_draw) = true)
    (a__law_pick : PySem.W.nsIn K mainGlobals "_law_pick" = some (some (.ref f__law_pick)))
    (l__law_pick : K.lookup f__law_pick = some ⟨oc__law_pick, od__law_pick, .func (PySem.W.fnOf "_law_pick" "_law_pick" (defArgs s__law_pick) (defBody s__law_pick) (defScope s__law_pick) .none kV__law_pick dc__law_pick pm__law_pick an__law_pick cd__law_pick ct__law_pick), sl__law_pick⟩)
    (e__law_pick : PySem.W.codeIn K cd__law_pick "_law_pick" = true)
    (k__law_pick : PySem.W.keepIn K (.ref f__law_pick) = true)
    (a__law_term : PySem.W.nsIn K mainGlobals "_law_term" = some (some (.ref f__law_term)))
    (l__law_term : K.lookup f__law_term = some ⟨oc__law_term, od__law_term, .func (PySem.W.fnOf "_law_term" "_law_term" (defArgs s__law_term) (defBody s__law_term) (defScope s__law_term) .none kV__law_term dc__law_term pm__law_term an__law_term cd__law_term ct__law_term), sl__law_term⟩)
    (e__law_term : PySem.W.codeIn K cd__law_term "_law_term" = true)
    (k__law_term : PySem.W.keepIn K (.ref f__law_term) = true)
    (a__law_is_open : PySem.W.nsIn K mainGlobals "_law_is_open" = some (some (.ref f__law_is_open)))
    (l__law_is_open : K.lookup f__law_is_open = some ⟨oc__law_is_open, od__law_is_open, .func (PySem.W.fnOf "_law_is_open" "_law_is_open" (defArgs s__law_is_open) (defBody s__law_is_open) (defScope s__law_is_open) .none kV__law_is_open dc__law_is_open pm__law_is_open an__law_is_open cd__law_is_open ct__law_is_open), sl__law_is_open⟩)
    (e__law_is_open : PySem.W.codeIn K cd__law_is_open "_law_is_open" = true)
    (k__law_is_open : PySem.W.keepIn K (.ref f__law_is_open) = true)
    (a__law_fault : PySem.W.nsIn K mainGlobals "_law_fault" = some (some (.ref f__law_fault)))
    (l__law_fault : K.lookup f__law_fault = some ⟨oc__law_fault, od__law_fault, .func (PySem.W.fnOf "_law_fault" "_law_fault" (defArgs s__law_fault) (defBody s__law_fault) (defScope s__law_fault) .none kV__law_fault dc__law_fault pm__law_fault an__law_fault cd__law_fault ct__law_fault), sl__law_fault⟩)
    (e__law_fault : PySem.W.codeIn K cd__law_fault "_law_fault" = true)
    (k__law_fault : PySem.W.keepIn K (.ref f__law_fault) = true)
    (a__law_said : PySem.W.nsIn K mainGlobals "_law_said" = some (some (.ref f__law_said)))
    (l__law_said : K.lookup f__law_said = some ⟨oc__law_said, od__law_said, .func (PySem.W.fnOf "_law_said" "_law_said" (defArgs s__law_said) (defBody s__law_said) (defScope s__law_said) .none kV__law_said dc__law_said pm__law_said an__law_said cd__law_said ct__law_said), sl__law_said⟩)
    (e__law_said : PySem.W.codeIn K cd__law_said "_law_said" = true)
    (k__law_said : PySem.W.keepIn K (.ref f__law_said) = true)
    (a__law_due : PySem.W.nsIn K mainGlobals "_law_due" = some (some (.ref f__law_due)))
    (l__law_due : K.lookup f__law_due = some ⟨oc__law_due, od__law_due, .func (PySem.W.fnOf "_law_due" "_law_due" (defArgs s__law_due) (defBody s__law_due) (defScope s__law_due) .none kV__law_due dc__law_due pm__law_due an__law_due cd__law_due ct__law_due), sl__law_due⟩)
    (e__law_due : PySem.W.codeIn K cd__law_due "_law_due" = true)
    (k__law_due : PySem.W.keepIn K (.ref f__law_due) = true)
    (a__law_right : PySem.W.nsIn K mainGlobals "_law_right" = some (some (.ref f__law_right)))
    (l__law_right : K.lookup f__law_right = some ⟨oc__law_right, od__law_right, .func (PySem.W.fnOf "_law_right" "_law_right" (defArgs s__law_right) (defBody s__law_right) (defScope s__law_right) .none kV__law_right dc__law_right pm__law_right an__law_right cd__law_right ct__law_right), sl__law_right⟩)
    (e__law_right : PySem.W.codeIn K cd__law_right "_law_right" = true)
    (k__law_right : PySem.W.keepIn K (.ref f__law_right) = true)
    (a__law_long_right : PySem.W.nsIn K mainGlobals "_law_long_right" = some (some (.ref f__law_long_right)))
    (l__law_long_right : K.lookup f__law_long_right = some ⟨oc__law_long_right, od__law_long_right, .func (PySem.W.fnOf "_law_long_right" "_law_long_right" (defArgs s__law_long_right) (defBody s__law_long_right) (defScope s__law_long_right) .none kV__law_long_right dc__law_long_right pm__law_long_right an__law_long_right cd__law_long_right ct__law_long_right), sl__law_long_right⟩)
    (e__law_long_right : PySem.W.codeIn K cd__law_long_right "_law_long_right" = true)
    (k__law_long_right : PySem.W.keepIn K (.ref f__law_long_right) = true)
    (a_law : PySem.W.nsIn K mainGlobals "law" = some (some (.ref f_law)))
    (l_law : K.lookup f_law = some ⟨oc_law, od_law, .func (PySem.W.fnOf "law" "law" (defArgs s_law) (defBody s_law) (defScope s_law) .none kV_law dc_law pm_law an_law cd_law ct_law), sl_law⟩)
    (e_law : PySem.W.codeIn K cd_law "law" = true)
    (k_law : PySem.W.keepIn K (.ref f_law) = true)
    (ac_Reader : PySem.W.nsIn K mainGlobals "Reader" = some (some (.ref c_Reader)))
    (pg_Reader : PySem.W.plainGet K c_Reader Str.empty = true)
    (hd_Reader : PySem.W.hasDictIn K c_Reader = true)
    (po_Reader : PySem.W.plainOver K c_Reader = true)
    (sa_Reader : PySem.W.findIn K (.ref c_Reader) "__setattr__" = some (some (.builtin "object.__setattr__")))
    (mk_Reader : PySem.W.makesIn K c_Reader = true)
    (kc_Reader : PySem.W.keepIn K (.ref c_Reader) = true)
    (na_Reader_text : PySem.W.findIn K (.ref c_Reader) "text" = some none)
    (na_Reader_spot : PySem.W.findIn K (.ref c_Reader) "spot" = some none)
    (ac_NoTerm : PySem.W.nsIn K mainGlobals "NoTerm" = some (some (.ref c_NoTerm)))
    (x_NoTerm : K.lookup c_NoTerm = some (excClassObj nm_NoTerm q_NoTerm c_NoTerm N_NoTerm bs_NoTerm bm_NoTerm true sn_NoTerm sub_NoTerm ab_NoTerm col_NoTerm dd_NoTerm m0_NoTerm m1_NoTerm m2_NoTerm m3_NoTerm m5_NoTerm "ValueError.__new__"))
    (rv_NoTerm : PySem.HandSPX.refsVE bm_NoTerm = true)
    (sa_NoTerm : PySem.W.findIn K (.ref c_NoTerm) "__setattr__" = some (some (.builtin "object.__setattr__")))
    (ga_NoTerm : PySem.W.findIn K (.ref c_NoTerm) "__getattribute__" = some (some (.builtin "BaseException.__getattribute__")))
    (gg_NoTerm : PySem.W.findIn K (.ref c_NoTerm) "__getattr__" = some none)
    (ex_NoTerm : PySem.W.subIn K (.ref c_NoTerm) (.type "BaseException") = some true)
    (ty_NoTerm : PySem.W.typeIn K (.ref c_NoTerm) = some (.type "type"))
    (hd_NoTerm : PySem.W.hasDictIn K c_NoTerm = true)
    (kc_NoTerm : PySem.W.keepIn K (.ref c_NoTerm) = true)
    (no_NoTerm_place : PySem.W.findIn K (.ref c_NoTerm) "place" = some none)
    (ac_FoldError : PySem.W.nsIn K mainGlobals "FoldError" = some (some (.ref c_FoldError)))
    (q_NoTerm_NoTerm : PySem.W.subIn K (.ref c_NoTerm) (.ref c_NoTerm) = some true)
    (cx_NoTerm_NoTerm : PySem.W.subIn K (.ref c_NoTerm) (.type "BaseException") = some true ∧ PySem.W.isClsIn K c_NoTerm = true ∧ PySem.W.typeIn K (.ref c_NoTerm) = some (.type "type"))
    (ak_NAMES : PySem.W.nsIn K mainGlobals "NAMES" = some (some u_NAMES))
    (rk_NAMES : RelV (.str "wxyz") u_NAMES)
    (ak_MOST_TEXT : PySem.W.nsIn K mainGlobals "MOST_TEXT" = some (some u_MOST_TEXT))
    (rk_MOST_TEXT : RelV (.int 200) u_MOST_TEXT)
    (z_len : PySem.W.nsIn K mainGlobals "len" = some none)
    (z_int : PySem.W.nsIn K mainGlobals "int" = some none)
    (z_abs : PySem.W.nsIn K mainGlobals "abs" = some none)
    (z_isinstance : PySem.W.nsIn K mainGlobals "isinstance" = some none)
    (z_tuple : PySem.W.nsIn K mainGlobals "tuple" = some none)
    (z_range : PySem.W.nsIn K mainGlobals "range" = some none)
    (z_enumerate : PySem.W.nsIn K mainGlobals "enumerate" = some none)
    (z_str : PySem.W.nsIn K mainGlobals "str" = some none)
    {fa : Addr} (hfa : mg "law" = some (.ref fa)) :
    ∃ fd : FuncData, (∀ (s : Shared) (u : Value), BindsTo s fd ⟨[u], []⟩ [("_law_script", u)]) ∧ ∀ base : Heap, K.In base → base.Ns mainGlobals mg → FnOk P w K mg base (L2.CX P w) 160 fa fd ["_law_script"] (sp_lawK K) := by
  have T := all_mk X Ns a_NoTerm_init t_NoTerm_init l_NoTerm_init e_NoTerm_init k_NoTerm_init a_Reader_init i_Reader_init l_Reader_init e_Reader_init k_Reader_init a_Reader_sign i_Reader_sign l_Reader_sign e_Reader_sign k_Reader_sign a_Reader_demand i_Reader_demand l_Reader_demand e_Reader_demand k_Reader_demand a_Reader_is_factor i_Reader_is_factor l_Reader_is_factor e_Reader_is_factor k_Reader_is_factor a_Reader_term i_Reader_term l_Reader_term e_Reader_term k_Reader_term a_Reader_power i_Reader_power l_Reader_power e_Reader_power k_Reader_power a_two_terms l_two_terms e_two_terms k_two_terms a_names_in l_names_in e_names_in k_names_in a_read_identity l_read_identity e_read_identity k_read_identity a__law_source l__law_source e__law_source k__law_source a__law_draw l__law_draw e__law_draw k__law_draw a__law_pick l__law_pick e__law_pick k__law_pick a__law_term l__law_term e__law_term k__law_term a__law_is_open l__law_is_open e__law_is_open k__law_is_open a__law_fault l__law_fault e__law_fault k__law_fault a__law_said l__law_said e__law_said k__law_said a__law_due l__law_due e__law_due k__law_due a__law_right l__law_right e__law_right k__law_right a__law_long_right l__law_long_right e__law_long_right k__law_long_right a_law l_law e_law k_law ac_Reader pg_Reader hd_Reader po_Reader sa_Reader mk_Reader kc_Reader na_Reader_text na_Reader_spot ac_NoTerm x_NoTerm rv_NoTerm sa_NoTerm ga_NoTerm gg_NoTerm ex_NoTerm ty_NoTerm hd_NoTerm kc_NoTerm no_NoTerm_place ac_FoldError q_NoTerm_NoTerm cx_NoTerm_NoTerm ak_NAMES rk_NAMES ak_MOST_TEXT rk_MOST_TEXT z_len z_int z_abs z_isinstance z_tuple z_range z_enumerate z_str
  have e := hfa.symm.trans T.g_law
  cases e
  exact ⟨_, fun s v => .of_eq rfl, fun base _ _ => ok_law T⟩
end K81
open PySem PySem.W PyProof.Rows
set_option maxRecDepth 100000 in
set_option maxHeartbeats 0 in
theorem PySem.Challenge.cw_letterfolds_k81_identities_that_are_read_holds : PySem.Challenge.rw_letterfolds_k81_identities_that_are_read.Holds := by
  w_on; o_law; k_head; (case hw => w_witness2)
  k_fill
  refine L2.walk_of (n := 63) (k := 160) (x := "_law_script") (CX := fun w => L2.CX PySem.Challenge.rw_letterfolds_k81_identities_that_are_read.prog w) (sp := fun w => K81.sp_lawK _) rfl (by decide) rfl ⟨rfl, by decide, by decide⟩ (fun w h Y => PySem.W.kIn_of Y) ?F (fun w H a ns h1 h2 h3 => K81.sp_law_start h1 h3) (fun w H s e s' z => K81.cx_none z)
  case F =>
    intro w mg fa h KX Ns hmg
    refine' K81.law_end KX Ns ?a_NoTerm_init ?t_NoTerm_init ?l_NoTerm_init ?e_NoTerm_init ?k_NoTerm_init ?a_Reader_init ?i_Reader_init ?l_Reader_init ?e_Reader_init ?k_Reader_init ?a_Reader_sign ?i_Reader_sign ?l_Reader_sign ?e_Reader_sign ?k_Reader_sign ?a_Reader_demand ?i_Reader_demand ?l_Reader_demand ?e_Reader_demand ?k_Reader_demand ?a_Reader_is_factor ?i_Reader_is_factor ?l_Reader_is_factor ?e_Reader_is_factor ?k_Reader_is_factor ?a_Reader_term ?i_Reader_term ?l_Reader_term ?e_Reader_term ?k_Reader_term ?a_Reader_power ?i_Reader_power ?l_Reader_power ?e_Reader_power ?k_Reader_power ?a_two_terms ?l_two_terms ?e_two_terms ?k_two_terms ?a_names_in ?l_names_in ?e_names_in ?k_names_in ?a_read_identity ?l_read_identity ?e_read_identity ?k_read_identity ?a__law_source ?l__law_source ?e__law_source ?k__law_source ?a__law_draw ?l__law_draw ?e__law_draw ?k__law_draw ?a__law_pick ?l__law_pick ?e__law_pick ?k__law_pick ?a__law_term ?l__law_term ?e__law_term ?k__law_term ?a__law_is_open ?l__law_is_open ?e__law_is_open ?k__law_is_open ?a__law_fault ?l__law_fault ?e__law_fault ?k__law_fault ?a__law_said ?l__law_said ?e__law_said ?k__law_said ?a__law_due ?l__law_due ?e__law_due ?k__law_due ?a__law_right ?l__law_right ?e__law_right ?k__law_right ?a__law_long_right ?l__law_long_right ?e__law_long_right ?k__law_long_right ?a_law ?l_law ?e_law ?k_law ?ac_Reader ?pg_Reader ?hd_Reader ?po_Reader ?sa_Reader ?mk_Reader ?kc_Reader ?na_Reader_text ?na_Reader_spot ?ac_NoTerm ?x_NoTerm ?rv_NoTerm ?sa_NoTerm ?ga_NoTerm ?gg_NoTerm ?ex_NoTerm ?ty_NoTerm ?hd_NoTerm ?kc_NoTerm ?no_NoTerm_place ?ac_FoldError ?q_NoTerm_NoTerm ?cx_NoTerm_NoTerm ?ak_NAMES ?rk_NAMES ?ak_MOST_TEXT ?rk_MOST_TEXT ?z_len ?z_int ?z_abs ?z_isinstance ?z_tuple ?z_range ?z_enumerate ?z_str hmg
    (case ac_Reader => k_is)
    (case ac_NoTerm => k_is)
    (case ac_FoldError => k_is)
    (case a_NoTerm_init => k_is)
    (case t_NoTerm_init => k_is)
    (case l_NoTerm_init => k_is)
    (case e_NoTerm_init => k_is)
    (case k_NoTerm_init => k_is)
    (case a_Reader_init => k_is)
    (case i_Reader_init => k_is)
    (case l_Reader_init => k_is)
    (case e_Reader_init => k_is)
    (case k_Reader_init => k_is)
    (case a_Reader_sign => k_is)
    (case i_Reader_sign => k_is)
    (case l_Reader_sign => k_is)
    (case e_Reader_sign => k_is)
    (case k_Reader_sign => k_is)
    (case a_Reader_demand => k_is)
    (case i_Reader_demand => k_is)
    (case l_Reader_demand => k_is)
    (case e_Reader_demand => k_is)
    (case k_Reader_demand => k_is)
    (case a_Reader_is_factor => k_is)
    (case i_Reader_is_factor => k_is)
    (case l_Reader_is_factor => k_is)
    (case e_Reader_is_factor => k_is)
    (case k_Reader_is_factor => k_is)
    (case a_Reader_term => k_is)
    (case i_Reader_term => k_is)
    (case l_Reader_term => k_is)
    (case e_Reader_term => k_is)
    (case k_Reader_term => k_is)
    (case a_Reader_power => k_is)
    (case i_Reader_power => k_is)
    (case l_Reader_power => k_is)
    (case e_Reader_power => k_is)
    (case k_Reader_power => k_is)
    (case a_two_terms => k_is)
    (case l_two_terms => k_is)
    (case e_two_terms => k_is)
    (case k_two_terms => k_is)
    (case a_names_in => k_is)
    (case l_names_in => k_is)
    (case e_names_in => k_is)
    (case k_names_in => k_is)
    (case a_read_identity => k_is)
    (case l_read_identity => k_is)
    (case e_read_identity => k_is)
    (case k_read_identity => k_is)
    (case a__law_source => k_is)
    (case l__law_source => k_is)
    (case e__law_source => k_is)
    (case k__law_source => k_is)
    (case a__law_draw => k_is)
    (case l__law_draw => k_is)
    (case e__law_draw => k_is)
    (case k__law_draw => k_is)
    (case a__law_pick => k_is)
    (case l__law_pick => k_is)
    (case e__law_pick => k_is)
    (case k__law_pick => k_is)
    (case a__law_term => k_is)
    (case l__law_term => k_is)
    (case e__law_term => k_is)
    (case k__law_term => k_is)
    (case a__law_is_open => k_is)
    (case l__law_is_open => k_is)
    (case e__law_is_open => k_is)
    (case k__law_is_open => k_is)
    (case a__law_fault => k_is)
    (case l__law_fault => k_is)
    (case e__law_fault => k_is)
    (case k__law_fault => k_is)
    (case a__law_said => k_is)
    (case l__law_said => k_is)
    (case e__law_said => k_is)
    (case k__law_said => k_is)
    (case a__law_due => k_is)
    (case l__law_due => k_is)
    (case e__law_due => k_is)
    (case k__law_due => k_is)
    (case a__law_right => k_is)
    (case l__law_right => k_is)
    (case e__law_right => k_is)
    (case k__law_right => k_is)
    (case a__law_long_right => k_is)
    (case l__law_long_right => k_is)
    (case e__law_long_right => k_is)
    (case k__law_long_right => k_is)
    (case a_law => k_is)
    (case l_law => k_is)
    (case e_law => k_is)
    (case k_law => k_is)
    (case pg_Reader => k_is)
    (case hd_Reader => k_is)
    (case po_Reader => k_is)
    (case sa_Reader => k_is)
    (case mk_Reader => k_is)
    (case kc_Reader => k_is)
    (case na_Reader_text => k_is)
    (case na_Reader_spot => k_is)
    (case x_NoTerm => k_is)
    (case rv_NoTerm => decide +kernel)
    (case sa_NoTerm => k_is)
    (case ga_NoTerm => k_is)
    (case gg_NoTerm => k_is)
    (case ex_NoTerm => k_is)
    (case ty_NoTerm => k_is)
    (case hd_NoTerm => k_is)
    (case kc_NoTerm => k_is)
    (case no_NoTerm_place => k_is)
    (case q_NoTerm_NoTerm => first | rfl | k_is)
    (case cx_NoTerm_NoTerm => refine ⟨?_, ?_, ?_⟩ <;> k_is)
    (case ak_NAMES => k_is)
    (case rk_NAMES => exact ⟨_, rfl⟩)
    (case ak_MOST_TEXT => k_is)
    (case rk_MOST_TEXT => exact ⟨_, rfl⟩)
    (case z_len => k_is)
    (case z_int => k_is)
    (case z_abs => k_is)
    (case z_isinstance => k_is)
    (case z_tuple => k_is)
    (case z_range => k_is)
    (case z_enumerate => k_is)
    (case z_str => k_is)
