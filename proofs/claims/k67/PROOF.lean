import PyProof.Rows.All
import Wide.All
import OpenK.AllK
import Wide.FinOn
import HandS.ForMost
import HandS.ForExc
import HandS.ExcInit
import HandS.ExcField
import HandS.TryMany
import HandS.IsInst
import HandS.Flow
import HandS.Conv
import KE.GoesEnum
import KE.GoesNew
import KE.KAssignIn
import PyProof.StrOps2
import HandS.Codes
import HandS.Style
import PyProof.EnumMake
import HandS.SetFor
import HandS.Strs
import HandS.SortInts
import HandS.Ends
import PyProof.ReprRoads
import HandS.HotCalls
import HandS.Replace
import HandS.Sort
import KE.KDictDisplayH
import PyProof.ListStr
import HandS.OwnEq
import PySem.Challenge.RW_letterfolds_k67_words_that_things_have
import PyProof.StrLawsRepr
set_option Elab.async false
set_option linter.all false
set_option maxRecDepth 100000
set_option maxHeartbeats 4000000
namespace LX
open PySem PySem.Spec PyProof.Rows L2

/-! ### deep recursion: room by the number of frames -/
structure RoomD (d : Nat) (A : Around) : Prop where
  hd : A.handled = none
  dp : A.depth + d + 20 < recursionLimit
  un : A.units + 4 * d + 400 < cLine
theorem RoomD.deeper {d : Nat} {A : Around} (r : RoomD (d + 1) A) (env : Env) : RoomD d (A.deeper env) :=
  ⟨r.hd, by have := r.dp; show A.depth + 1 + d + 20 < _; omega, by have := r.un; show A.units + 3 + 4 * d + 400 < _; omega⟩
theorem RoomD.mono {d e : Nat} {A : Around} (r : RoomD d A) (h : e ≤ d) : RoomD e A := ⟨r.hd, by have := r.dp; omega, by have := r.un; omega⟩
theorem RoomD.room {d : Nat} {A : Around} (r : RoomD d A) : Room 5 A := ⟨r.hd, by have := r.dp; omega, by have := r.un; omega⟩
theorem RoomD.of {k d : Nat} {A : Around} (r : Room k A) (h : d + 15 ≤ 3 * k) (h2 : 43 ≤ k) : RoomD d A := ⟨r.hd, by have := r.dp; omega, by have := r.un; omega⟩

/-- a def's promise, wherever R holds around -/
structure FnG (R : Around → Prop) (P : Program) (w : World) (K : PySem.W.Frag) (mg : Str → Option Value) (base : Heap) (CX : CXT) (f : Addr) (fd : FuncData) (ps : List Str) (sp : Sp) : Prop where
  len : ∀ vs H Q E, sp vs H Q E → vs.length = ps.length
  run : ∀ (A : Around) (outer : List Env) (s : Shared) (H : Hp) (args : Args) (us : List Value) (vs : List V) (Q : VK) (E : XK), R A → Env0 P w K mg base A outer s H → BindsTo s fd args (ps.zip us) → Vals vs us → sp vs H Q E →
    codeAny (model P w) A (.call (.ref f) args) (CR CX outer P w H s Q E) s
theorem FnG.ok {R : Around → Prop} {P : Program} {w : World} {K : PySem.W.Frag} {mg : Str → Option Value} {base : Heap} {CX : CXT} {f : Addr} {fd : FuncData} {ps : List Str} {sp : Sp} {k : Nat} (F : FnG R P w K mg base CX f fd ps sp) (h : ∀ A, Room k A → R A) :
    FnOk P w K mg base CX k f fd ps sp := ⟨F.len, fun A outer s H args us vs Q E hr => F.run A outer s H args us vs Q E (h A hr)⟩
theorem FnG.imp {R R' : Around → Prop} {P : Program} {w : World} {K : PySem.W.Frag} {mg : Str → Option Value} {base : Heap} {CX : CXT} {f : Addr} {fd : FuncData} {ps : List Str} {sp sp' : Sp} (F : FnG R P w K mg base CX f fd ps sp) (h : ∀ A, R' A → R A) (hs : ∀ vs H Q E, sp' vs H Q E → sp vs H Q E) :
    FnG R' P w K mg base CX f fd ps sp' := ⟨fun vs H Q E q => F.len _ _ _ _ (hs vs H Q E q), fun A outer s H args us vs Q E hr e b v q => F.run A outer s H args us vs Q E (h A hr) e b v (hs _ _ _ _ q)⟩

/-- a def by its body, R around it, R' around its body -/
theorem fnG {R R' : Around → Prop} {P : Program} {w : World} {K : PySem.W.Frag} {mg : Str → Option Value} {base : Heap} {x qual : Str} {st : Stmt} {f : Addr} {fd : FuncData} {N ps : List Str} {sp : Sp} (F : Fun K x qual st f fd) (S : FnScope N ps (defScope st))
    (hR : ∀ A, R A → A.handled = none ∧ A.depth < recursionLimit) (hR' : ∀ A env, R A → R' (A.deeper env)) (len : ∀ vs H Q E, sp vs H Q E → vs.length = ps.length)
    (hbody : ∀ (cdv : Value) (A : Around) (outer : List Env) (s : Shared) (H : Hp) (vs : List V) (Q : VK) (E : XK), R' (A.deeper (envOfC qual (defScope st) s.heap.objs.size f cdv)) → sp vs H Q E →
      ∃ t, PSs (cxOf (L2.CX P w) P w K mg base N qual (defScope st) f cdv A outer s H E) (defBody st) t ∧ t { nx := fun _ H' => Q .non H', rt := Q } (start N vs) H) : FnG R P w K mg base (L2.CX P w) f fd ps sp := by
  obtain ⟨oc, od, kV, doc, pm, an, cdv, ct, osl, rfl, lk, hcd⟩ := F.ex
  refine ⟨len, fun A outer s H args us vs Q E hr e0 hb r hsp => ?_⟩
  obtain ⟨hh, hdep⟩ := hR A hr
  have inHeap : ∀ b o, base.get? b = some o → s.heap.get? b = some o := fun b o e => (e0.bs b o e).1
  have kin := e0.mod.kin.keeps inHeap
  have kinds : ∀ y ∈ ps.zip us, (defScope st).names.lookup y.1 = some .local ∨ ((defScope st).names.lookup y.1 = some .cell ∧ ((cellsFrom (s.heap.objs.size + 1) (defScope st).names []).lookup y.1).isSome = true) := by
    intro y hy
    have hm := (List.of_mem_zip (a := y.1) (b := y.2) hy).1
    exact (S.par y.1 hm).imp id fun q => ⟨q, PySem.W.cellsFrom_some _ _ _ (.inl q)⟩
  refine codeAny_call_function hdep (kin _ _ lk) rfl S.co S.gen rfl (PySem.W.codeRec_of kin hcd) (hb _ _ _ _ (wpAny_newFunctionEnv_cells S.kind kinds fun env he s1 x => ?_))
  subst he
  refine ⟨(e0.mod.nolimit.keeps inHeap).keeps x.toInCall.keep, codeAny_func ?_⟩
  obtain ⟨t, ht, hq⟩ := hbody cdv A outer s H vs Q E (hR' A _ hr) hsp
  refine wpAny_mono (ht.run [] s1 (start N vs) H _ (inv_start S hh e0 (len _ _ _ _ hsp) r x) hq) (fun fl s' hs => ?_) fun e s' hs => hs
  cases fl with
  | ret u =>
    obtain ⟨v, σ', H', J, rv, q⟩ := hs
    exact ⟨v, H', J.os, J.bare, J.base, J.hok, rv, q⟩
  | next =>
    obtain ⟨σ', H', J, q⟩ := hs
    exact ⟨V.non, H', J.os, J.bare, J.base, J.hok, rfl, q⟩
  | brk => exact hs.elim fun _ h => h.elim fun _ h => h.2.elim
  | cont => exact hs.elim fun _ h => h.elim fun _ h => h.2.elim

section
variable {X : Cx} {CX : CXT} {R : Around → Prop} {f C : Addr} {fd : FuncData} {ps : List Str} {sp : Sp} {E : L2.St → XK} {x m : Str} {p pos apos : Pos} {e o : Expr} {es : List Expr} {ta : TE} {t : TA}
theorem run_fnG {pins : List (Addr × Obj)} {σ : L2.St} {H : Hp} {s : Shared} {Q : VK} {us : List Value} {vs : List V} (F : FnG R X.prog X.w X.K X.mg X.base CX f fd ps sp) (hr : R X.A) (hb : Binds X.K fd ps []) (hx : PassesAt CX X σ (E σ))
    (I : Inv X pins σ H s) (r : Vals vs us) (h : sp vs H Q (E σ)) : wpAny (model X.prog X.w) X.A (call (.ref f) us) (EP X pins σ Q) X.xe s := by
  have hl : us.length = ps.length := r.length ▸ F.len _ _ _ _ h
  have b := hb s us I.kIn ((List.append_nil us).symm ▸ hl)
  rw [List.append_nil] at b
  refine wpAny_call (codeAny_mono (F.run X.A X.stack s H ⟨us, []⟩ us vs Q (E σ) hr I.env0 b r h) fun z s' hq => ?_)
  match z, hq with
  | .error e, hq => exact hx pins H s e s' I hq
  | .ok (.ret u), hq => exact I.after hq
/-- o.m(), what may be raised told by the slots -/
def tMethG (C : Addr) (m : Str) (sp : Sp) (E : L2.St → XK) (ta : TE) (t : TA) : TE := fun σ H Q => ta σ H fun x H1 => ∃ a dx fs, x = .ref a ∧ H1 a = some (.ins C dx fs) ∧ fs.lookup m = none ∧
  t σ H1 fun vs H2 => sp (x :: vs) H2 Q (E σ)
theorem pe_methG0 {pl : Sem Bool} (he : PE X o ta) (c : Cls X.K C) (hm : Meth X.K C m f) (F : FnG R X.prog X.w X.K X.mg X.base CX f fd ps sp) (hr : R X.A) (hb : Binds X.K fd ps []) (hx : ∀ σ, PassesAt CX X σ (E σ))
    (ht : eval (.Call (.Attribute o m apos) [] [] pos) X.env = (do
      let ov ← eval o X.env
      standAt apos.atName
      let (f, first) ← holding [ov] (getMethod ov m pl)
      callWith pos f first (backTo pos (starEach [] X.env)) (backToKw pos (keywordEach [] X.env))) := by rfl) :
    PE X (.Call (.Attribute o m apos) [] [] pos) (tMethG C m sp E ta tNil) := by
  refine ⟨fun pins s σ H Q I h => PySem.W.methodCall_KW (pl := pl) (thn (he.run pins s σ H _ I h) fun u s1 hu => ?_) ht⟩
  obtain ⟨y, H1, I1, ry, a, dx, fs, rfl, ea, l, q⟩ := hu
  obtain rfl : u = Value.ref a := ry
  exact getmeth_ok I1 ea c hm l (PySem.W.callWith_K0 (first := [.ref a]) I1.kIn hm.kp (run_fnG (us := [.ref a]) (vs := [.ref a]) F hr hb (hx σ) I1 (.cons rfl .nil) q))
theorem pe_methG {pl : Sem Bool} (he : PE X o ta) (c : Cls X.K C) (hm : Meth X.K C m f) (F : FnG R X.prog X.w X.K X.mg X.base CX f fd ps sp) (hr : R X.A) (hb : Binds X.K fd ps []) (hx : ∀ σ, PassesAt CX X σ (E σ)) (ha : PA X (e :: es) t)
    (hst : starEach (e :: es) X.env = (false, eval e X.env) :: starEach es X.env := by rfl) (hpl : (backTo pos (starEach es X.env)).any (·.1) = false := by rfl)
    (ht : eval (.Call (.Attribute o m apos) (e :: es) [] pos) X.env = (do
      let ov ← eval o X.env
      standAt apos.atName
      let (f, first) ← holding [ov] (getMethod ov m pl)
      callWith pos f first (backTo pos (starEach (e :: es) X.env)) (backToKw pos (keywordEach [] X.env))) := by rfl) :
    PE X (.Call (.Attribute o m apos) (e :: es) [] pos) (tMethG C m sp E ta t) := by
  refine ⟨fun pins s σ H Q I h => PySem.W.methodCall_KW (pl := pl) (thn (he.run pins s σ H _ I h) fun u s1 hu => ?_) ht⟩
  obtain ⟨y, H1, I1, ry, a, dx, fs, rfl, ea, l, q⟩ := hu
  obtain rfl : u = Value.ref a := ry
  refine getmeth_ok I1 ea c hm l (PySem.W.callWith_K (first := [.ref a]) (h₀ := X.base) I.ok.mod.kin hm.kp (thn (ha.run pos pins s1 σ H1 _ I1 q) fun us s2 hu2 => ?_) hst hpl)
  obtain ⟨vs, H2, I2, r, q2⟩ := hu2
  exact ⟨I2.kIn, run_fnG (us := .ref a :: us) (vs := .ref a :: vs) F hr hb (hx σ) I2 (.cons rfl r) q2⟩
end
theorem FnOk.g {P : Program} {w : World} {K : PySem.W.Frag} {mg : Str → Option Value} {base : Heap} {CX : CXT} {k : Nat} {f : Addr} {fd : FuncData} {ps : List Str} {sp : Sp} (F : FnOk P w K mg base CX k f fd ps sp) : FnG (Room k) P w K mg base CX f fd ps sp := ⟨F.len, F.run⟩
end LX

set_option Elab.async false
set_option linter.all false
set_option maxRecDepth 100000
set_option maxHeartbeats 4000000
namespace LX
open PySem PySem.Spec PyProof.Rows L2

/-! ### try with any clauses: 'except C: ..' and 'except C as n: ..' -/
structure Cl where
  cls : Value
  slot : Option Nat
  ts : Addr → Value → Option Addr → TS
/-- the ends of a suite that has a name: its slot is emptied -/
def endsAs (i : Nat) (D : Ends) : Ends := { nx := fun σ H => D.nx (σ.set i none) H, rt := D.rt, bk := fun σ H => D.bk (σ.set i none) H, ct := fun σ H => D.ct (σ.set i none) H }
def Cl.wish (c : Cl) (D : Ends) (cls : Value) (d : Option Addr) (σ : L2.St) (H : Hp) : Prop :=
  ∀ a, H a = none → match c.slot with
    | none => c.ts a cls d D σ H
    | some i => c.ts a cls d (endsAs i D) (σ.set i (some (.ref a))) H
def wCl (K : PySem.W.Frag) (W : WX) (D : Ends) : List Cl → WX
  | [] => W
  | c :: r => fun cls d σ H => ∃ b, PySem.W.exmOne K cls c.cls = some b ∧ (b = true → c.wish D cls d σ H) ∧ (b = false → wCl K W D r cls d σ H)
/-- a suite's body, by its reading -/
def SuiteOk (X : Cx) (suite : List Stmt) (ts : Addr → Value → Option Addr → TS) : Prop :=
  ∀ (a : Addr) (oe : Obj) (cls : Value) (d : Option Addr) (pn : List (Addr × Obj)), Zc cls d oe → (∃ vs, oe.data = .fields vs) → PSs (X.suite a ((a, oe) :: pn)) suite (ts a cls d)
inductive ClsOk (X : Cx) : List ExceptHandler → List Cl → Prop
  | nil : ClsOk X [] []
  | plain {x : Str} {c : Value} {ts} {b₀ : Stmt} {suite : List Stmt} {np pos : Pos} {hds l} (hc : Names X x c) (hs : SuiteOk X (b₀ :: suite) ts) (r : ClsOk X hds l) :
      ClsOk X (.ExceptHandler (some (.Name x np)) none (b₀ :: suite) pos :: hds) (⟨c, none, ts⟩ :: l)
  | named {x n : Str} {i : Nat} {c : Value} {ts} {b₀ : Stmt} {suite : List Stmt} {np pos : Pos} {hds l} (hN : X.N.Nodup) (hi : X.N[i]? = some n) (hn : X.env.kindOf n = some .local) (hc : Names X x c) (hs : SuiteOk X (b₀ :: suite) ts) (r : ClsOk X hds l) :
      ClsOk X (.ExceptHandler (some (.Name x np)) (some n) (b₀ :: suite) pos :: hds) (⟨c, some i, ts⟩ :: l)

/-- the exception at a is down in the frame of X, over the ground B; sI: the state without it -/
structure Down (X : Cx) (pins : List (Addr × Obj)) (σ : L2.St) (H : Hp) (a : Addr) (B : Heap) (sI s : Shared) (cls : Value) (d : Option Addr) : Prop where
  J : Inv X pins σ H sI
  nb : ∀ b o, sI.heap.get? b = some o → b ∉ frs X.stack → B.get? b = some o
  up : sI.heap.UpToSlots s.heap
  fl : HandSPX.FlyingZ B (X.env :: X.outer) a (Zc cls d) s.heap
  na : H a = none
  os : s.os = sI.os
  ag : AllBare s.gens
section
variable {X : Cx} {pins : List (Addr × Obj)} {σ : L2.St} {H : Hp} {a : Addr} {B : Heap} {sI s : Shared} {cls : Value} {d : Option Addr}
theorem Down.there (Z : Down X pins σ H a B sI s cls d) : ∃ oe vs, s.heap.get? a = some oe ∧ Zc cls d oe ∧ oe.data = .fields vs := Z.fl.there
theorem Down.land (Z : Down X pins σ H a B sI s cls d) : Inv X pins σ H s := Z.J.landed Z.nb Z.fl.1 Z.up Z.os Z.ag
theorem Down.off (Z : Down X pins σ H a B sI s cls d) : a ∉ frs (X.env :: X.outer) := fun hm => by
  obtain ⟨oe, vs, e, _, dd⟩ := Z.there
  obtain ⟨_, o, e', h⟩ := Z.fl.2.2.1.mem hm
  cases e.symm.trans e'
  exact h _ dd
theorem Down.suite (Z : Down X pins σ H a B sI s cls d) (hf : X.env.frame = some X.env.locals) : ∃ oe, Zc cls d oe ∧ (∃ vs, oe.data = .fields vs) ∧ s.heap.get? a = some oe ∧ Inv (X.suite a ((a, oe) :: (X.pn ++ pins))) [] σ H s := by
  obtain ⟨oe, vs, e, hz, dd⟩ := Z.there
  refine ⟨oe, hz, ⟨vs, dd⟩, e, Z.land.suite e dd Z.na (fun q => ?_) fun hm => ?_⟩
  · exact Z.off (List.mem_filterMap.mpr ⟨X.env, List.mem_cons_self, by rw [hf, q]⟩)
  · obtain ⟨env, he, q⟩ := List.mem_filterMap.mp hm
    exact Z.off (List.mem_filterMap.mpr ⟨env, List.mem_cons_of_mem _ he, q⟩)
theorem Down.again (Z : Down X pins σ H a B sI s cls d) {h : Heap} (fl : HandSPX.FlyingZ B (X.env :: X.outer) a (Zc cls d) h) (up : s.heap.UpToSlots h) : Down X pins σ H a B sI { s with heap := h } cls d :=
  ⟨Z.J, Z.nb, Z.up.trans up, fl, Z.na, Z.os, Z.ag⟩
/-- what names the class is asked -/
theorem Down.named (Z : Down X pins σ H a B sI s cls d) (hf : X.env.frame = some X.env.locals) {x : Str} {c : Value} {np : Pos} {b : Bool} (hc : Names X x c) (hb : PySem.W.exmOne X.K cls c = some b) {R : Bool → Shared → Prop} {E : Value → Shared → Prop} {E2 : Shared → Value → Shared → Prop}
    (h : R b s) :
    wpAny (model X.prog X.w) (X.A.mark (some (.ref a))) (eval (.Name x np) X.env) (fun c s₁ => wpAny (model X.prog X.w) (X.A.mark (some (.ref a))) (excMatches (.ref a) c) R (E2 s₁) s₁) E s := by
  obtain ⟨oe, hz, _, e, S⟩ := Z.suite hf
  have LT : PySem.W.Looks (model X.prog X.w) s.heap (typeOf (.ref a)) cls := fun A Q E s k q => wpAny_typeOf_ref (k _ _ e) (by rw [hz.1]; exact q)
  have L := PySem.W.exm_one (M := model X.prog X.w) Z.land.kIn LT hb
  obtain ⟨hg, hdb, hm | ⟨hm, hv, hn⟩⟩ := hc
  · exact ld_glob (X := X.suite a ((a, oe) :: (X.pn ++ pins))) S hg hm (L.here h) hdb
  · exact ld_blt (X := X.suite a ((a, oe) :: (X.pn ++ pins))) S hg hm hv (L.here h) hn hdb
/-- the clauses one after the other -/
theorem clauses (hs : X.stack = X.env :: X.outer) (hf : X.env.frame = some X.env.locals) {W : WX} (tk : Takes X W) {D : Ends} {hds : List ExceptHandler} {l : List Cl} (hk : ClsOk X hds l) :
    ∀ {s : Shared}, Down X pins σ H a B sI s cls d → wCl X.K W D l cls d σ H → wpAny (model X.prog X.w) X.A (handleBy (.ref a) X.env hds) (SP X pins D) X.xe s := by
  induction hk with
  | nil =>
    intro s Z w
    refine wpAny_handleBy_nil ?_
    obtain ⟨k1, k2, k3, oe, vs, T, oT, ts', he, hz, hd, h1, hr⟩ := id Z.fl
    unfold PySem.passOn
    refine wpAny_bind (wpAny_field he hd h1 ?_)
    rw [if_neg (show ¬ ((Value.ref T == Value.none) = true) from by simp)]
    have fin : wpAny (model X.prog X.w) X.A (setFlight (.ref a) X.env.frame) (fun _ s4 => wpAny (model X.prog X.w) X.A (throw (.ref a) : Sem Flow) (SP X pins D) X.xe s4) X.xe s := by
      rw [hf]
      refine HandSPX.setFlight_upZ Z.fl fun h4 hh4 up4 => wpAny_throw (tk _ _ ?_)
      exact ⟨a, B, sI, pins, σ, H, cls, d, rfl, Z.J, Z.nb, Z.up.trans up4, .inr (.inr (by rw [hs]; exact hh4)), Z.na, Z.os, Z.ag, w⟩
    first
      | exact wpAny_bind (wpAny_pure (wpAny_bind fin))
      | exact wpAny_bind fin
  | @plain x c ts b₀ suite np pos hds l hc hsu r ih =>
    rintro s Z ⟨b, hb, yes, no⟩
    refine wpAny_handleBy_cons (codeAny_handlers_test (Z.named (E2 := fun _ => _) hf hc hb ?_)) (by intro q; cases q)
    cases b with
    | false => exact ih Z (no rfl)
    | true =>
      refine codeAny_handlers_suite (HandSPX.lands_againZ Z.fl fun h4 fl4 up4 => ?_)
      have Z4 := Z.again fl4 up4
      obtain ⟨oe, hz, hv, _, S⟩ := Z4.suite hf
      refine wpAny_mono ((hsu a oe cls d _ hz hv).run [] _ _ H _ S (yes rfl a Z.na)) (fun f s6 q => ?_) fun _ _ z => False.elim z
      have ok := Z.J.ok
      match f, q with
      | .next, ⟨σ6, H6, S6, q6⟩ => exact ⟨σ6, H6, S6.unsuite ok, q6⟩
      | .brk, ⟨σ6, H6, S6, q6⟩ => exact ⟨σ6, H6, S6.unsuite ok, q6⟩
      | .cont, ⟨σ6, H6, S6, q6⟩ => exact ⟨σ6, H6, S6.unsuite ok, q6⟩
      | .ret u, ⟨v6, σ6, H6, S6, r6, q6⟩ => exact ⟨v6, σ6, H6, S6.unsuite ok, r6, q6⟩
  | @named x n i c ts b₀ suite np pos hds l hN hi hn hc hsu r ih =>
    rintro s Z ⟨b, hb, yes, no⟩
    refine wpAny_handleBy_cons (codeAny_handlers_test (Z.named (E2 := fun _ => _) hf hc hb ?_)) (by intro q; cases q)
    cases b with
    | false => exact ih Z (no rfl)
    | true =>
      refine codeAny_handlers_suite_as (HandSPX.lands_againZ Z.fl fun h4 fl4 up4 => ?_)
      have Z4 := Z.again fl4 up4
      obtain ⟨oe, hz, hv, _, S⟩ := Z4.suite hf
      refine store_ok (X := X.suite a ((a, oe) :: (X.pn ++ pins))) (v := .ref a) S hN hi (.inl hn) rfl (fun s5 S5 => ?_) (.inr hn)
      refine wpAny_mono ((hsu a oe cls d _ hz hv).run [] s5 _ H (endsAs i D) S5 (yes rfl a Z.na)) (fun f s6 q => ?_) fun _ _ z => False.elim z
      have ok := Z.J.ok
      have gone : ∀ {σ6 : L2.St} {H6 : Hp} {Q : Shared → Prop}, Inv (X.suite a ((a, oe) :: (X.pn ++ pins))) [] σ6 H6 s6 → (∀ s7, Inv X pins (σ6.set i none) H6 s7 → Q s7) →
          wpAny (model X.prog X.w) X.A (do bindName X.env n .none; unbindBehindTheSuite X.env n pos) (fun _ s7 => Q s7) X.xe s6 := fun S6 hq => gone_ok (S6.unsuite ok) hN hi hn hq
      match f, q with
      | .next, ⟨σ6, H6, S6, q6⟩ => exact gone S6 fun s7 J7 => ⟨_, _, J7, q6⟩
      | .brk, ⟨σ6, H6, S6, q6⟩ => exact gone S6 fun s7 J7 => ⟨_, _, J7, q6⟩
      | .cont, ⟨σ6, H6, S6, q6⟩ => exact gone S6 fun s7 J7 => ⟨_, _, J7, q6⟩
      | .ret u, ⟨v6, σ6, H6, S6, r6, q6⟩ => exact gone S6 fun s7 J7 => ⟨_, _, _, J7, r6, q6⟩
end
def tTry (K : PySem.W.Frag) (W : WX) (l : List Cl) (tb : WX → TS) : TS := fun D σ H => tb (wCl K W D l) D σ H
theorem ps_try {X : Cx} {body : List Stmt} {h₀ : ExceptHandler} {hds : List ExceptHandler} {l : List Cl} {pos : Pos} {tb : WX → TS} {W : WX} (hs : X.stack = X.env :: X.outer) (hf : X.env.frame = some X.env.locals) (tk : Takes X W)
    (hb : ∀ (W : WX) (pn : List (Addr × Obj)) (xe : Value → Shared → Prop), Takes (X.tr pn xe) W → PassesOwn (model X.prog X.w) X.A X.env xe → PSs (X.tr pn xe) body (tb W)) (hh : ClsOk X (h₀ :: hds) l) :
    PS X (.Try body (h₀ :: hds) [] [] pos) (tTry X.K W l tb) := by
  refine ⟨fun pins s σ H D I h => wpAny_Try_except ?_⟩
  have ok := I.ok
  have body := (hb (wCl X.K W D l) (X.pn ++ pins) (fun e s₁ => wpAny (model X.prog X.w) X.A (noteFrame e X.env) (fun _ s₂ => wpAny (model X.prog X.w) X.A (setFlight e none) (fun _ s₃ =>
    wpAny (model X.prog X.w) X.A (handleBy e X.env (h₀ :: hds)) (SP X pins D) X.xe s₃) X.xe s₂) X.xe s₁) (fun u s' xx => by
      obtain ⟨a, B, sI, pins', σ', H', cls, d, rfl, J', nb, up, sky, na, os, ag, w⟩ := xx
      have sky' : Sky B (X.env :: X.outer) a (Zc cls d) X.env.locals s'.heap := hs ▸ sky
      exact Sky.land Zc.steady (by rw [ok.frames, hs]) hf sky' fun h3 fl3 up3 => clauses hs hf tk hh (s := { s' with heap := h3 }) ⟨J'.ofTry ok, nb, up.trans up3, fl3, na, os, ag⟩ w) PassesOwn.looking).run [] s σ H D (I.toTry _) h
  refine wpAny_mono body (fun f s1 q => ?_) fun e s1 he => he
  match f, q with
  | .next, ⟨σ', H', J', q⟩ => exact wpAny_execs_nil ⟨σ', H', J'.ofTry ok, q⟩
  | .brk, ⟨σ', H', J', q⟩ => exact ⟨σ', H', J'.ofTry ok, q⟩
  | .cont, ⟨σ', H', J', q⟩ => exact ⟨σ', H', J'.ofTry ok, q⟩
  | .ret u, ⟨v, σ', H', J', r, q⟩ => exact ⟨v, σ', H', J'.ofTry ok, r, q⟩

/-! ### raise C(e) of an own class with one field f -/
/-- self.f = e, the promise of such an __init__ -/
def spInit1 (K : PySem.W.Frag) (C : Addr) (f : Str) : Sp := fun vs H Q _ => ∃ (a : Addr) (y : V), vs = [.ref a, y] ∧ OexC K C ∧ PySem.W.findIn K (.ref C) f = some none ∧ H a = some (exo a C none) ∧
  ∀ dx, H dx = none → dx ≠ a → Q .non (upd (upd H dx (exd dx [(f, y)])) a (exo a C (some dx)))
def tRaise1 (C : Addr) (f : Str) (W : WX) (te : TE) : TS := fun _ σ H => te σ H fun y H1 => ∀ d, H1 d = none → W (.ref C) (some d) σ (upd H1 d (.xd [(f, y)]))
theorem spInit1_mk {K : PySem.W.Frag} {C : Addr} {f : Str} {te : TE} {σ : L2.St} {H : Hp} {Q : XK} (T : OexC K C) (no : PySem.W.findIn K (.ref C) f = some none) (h : te σ H fun y H1 => ∀ d, H1 d = none → Q (.ref C) (some d) (upd H1 d (.xd [(f, y)])))
    (mono : ∀ Q Q' : VK, (∀ v H, Q v H → Q' v H) → te σ H Q → te σ H Q') : tMkO C (spInit1 K C f) [] (tCons te tNil) σ H Q := by
  refine mono _ _ (fun y H1 q => ?_) h
  refine ⟨by simp, fun a ha => ⟨a, y, rfl, T, no, upd_same, fun dx hd ne => ⟨rfl, dx, [(f, y)], upd_same, ?_, ?_, ?_⟩⟩⟩
  · rw [upd_ne ne, upd_same]
  · rw [upd_ne ne] at hd; exact hd
  · rw [upd_ne ne] at hd
    have e : del (upd (upd (upd H1 a (exo a C none)) dx (exd dx [(f, y)])) a (exo a C (some dx))) a = upd H1 dx (exd dx [(f, y)]) := by
      funext b
      by_cases hb : b = a
      · rw [hb, del_same, upd_ne (Ne.symm ne), ha]
      · rw [del_ne hb, upd_ne hb]
        by_cases hb2 : b = dx
        · rw [hb2, upd_same, upd_same]
        · rw [upd_ne hb2, upd_ne hb2, upd_ne hb]
    rw [e, upd_upd]
    exact q dx hd
/-- what is known of an own exception class whose __init__ stores one field -/
structure Exc1 (X : Cx) (x : Str) (C : Addr) (f : Str) (fI : Addr) (fd : FuncData) (ps : List Str) : Prop where
  T : OexC X.K C
  no : PySem.W.findIn X.K (.ref C) f = some none
  iC : PySem.W.findIn X.K (.ref C) "__init__" = some (some (.ref fI))
  tI : PySem.W.typeIn X.K (.ref fI) = some (.type "function")
  F : FnOk X.prog X.w X.K X.mg X.base (L2.CX X.prog X.w) 1 fI fd ps (spInit1 X.K C f)
  b : Binds X.K fd ps []
  gC : X.mg x = some (.ref C)
theorem ps_raise1 {X : Cx} {x f : Str} {C fI : Addr} {fd : FuncData} {ps : List Str} {W : WX} {e : Expr} {te : TE} {p pos pos' : Pos} (T : Exc1 X x C f fI fd ps) (hr : Room 2 X.A) (hc : X.calm = true) (tk : Takes X W) (hg : Gl X x) (he : PE X e te)
    (mono : ∀ σ H (Q Q' : VK), (∀ v H, Q v H → Q' v H) → te σ H Q → te σ H Q')
    (hdb : (x == ("__debug__" : Str)) = false := by decide) (hst : starEach [e] X.env = (false, eval e X.env) :: starEach [] X.env := by rfl) (hpl : (backTo pos (starEach [] X.env)).any (·.1) = false := by rfl) :
    PS X (.Raise (some (.Call (.Name x p) [e] [] pos)) none pos') (tRaise1 C f W te) := by
  have mk : PMk X (.Call (.Name x p) [e] [] pos) (tMkO C (spInit1 X.K C f) [] (tCons te tNil)) := pmk_oex (ds := []) T.T T.iC T.tI T.F hr T.b .nil passL hg T.gC (pa_cons he pa_nil hst) hdb hst hpl
  have r := ps_raise (pos := pos') hc tk mk
  exact ⟨fun pins s σ H D I h => r.run pins s σ H D I (spInit1_mk T.T T.no h (mono σ H))⟩
end LX

set_option Elab.async false
set_option linter.all false
set_option maxRecDepth 100000
set_option maxHeartbeats 4000000
namespace LX
open PySem PySem.Spec PyProof.Rows L2

/-! ### an iterator whose items do not change, each in a new tuple -/
def Itn (n : Nat) (ys : Nat → List V) : It := ⟨fun i _ => i < n, fun i H v H' => ∃ T, v = .ref T ∧ H T = none ∧ H' = upd H T (.tup (ys i)), fun i _ => i = n⟩
theorem turn_new {P : Program} {w : World} {K : PySem.W.Frag} {tg : Expr} {it : Addr} {fp wr : List Addr} {n : Nat} {ys : Nat → List V} {Y : Nat → Heap → Value → Heap → Prop} {tn : Nat → Heap → Prop}
    (G : ∀ A : Around, A.handled = none → GoesN P w A tg it fp wr n Y tn) (mem : it ∈ fp) (obj : ∀ i h, tn i h → ∀ b ∈ fp, ∃ o, h.get? b = some o ∧ ∀ v, o.data ≠ .cell v) (sz : ∀ i, (ys i).length ≤ sizeLine)
    (y : ∀ i h₀ v h, i < n → Y i h₀ v h → ∃ T us, v = .ref T ∧ h₀.objs.size ≤ T ∧ IsTup h T us.toArray ∧ Vals (ys i) us) (lt : ∀ i h, tn i h → ∀ b ∈ fp, b < h.objs.size)
    (self : ∀ (A : Around) (i : Nat) (s : Shared) (Q : Value → Shared → Prop) (E : Value → Shared → Prop), tn i s.heap → Q (.ref it) s → wpAny (model P w) A (pyIter (.ref it)) Q E s) : Turn P w K tg (Itn n ys) fp it tn where
  mem := mem
  obj := obj
  keep := fun i h h' st k => (G callerA rfl).frame i h h' st k
  item := by
    intro X hP hw hK hc i pins s σ H E I hf st hg
    subst hP hw hK
    refine (G X.A (I.ok.hd hc)).goes i s _ _ hg st fun v h' tk hY st' hk htk => ?_
    obtain ⟨T, us, rfl, hT, tup, rv⟩ := y i s.heap v h' hg hY
    have J := I.turnedNew (h' := h') (t' := tk) (ch := wr) (T := T) (ob := .tup (ys i)) hk (fun b hb => hf b ((G X.A (I.ok.hd hc)).sub b hb)) hT ⟨sz i, us, rv, tup⟩
    refine ⟨.ref T, _, J, rfl, ⟨T, rfl, I.hok.fresh hT, rfl⟩, st', fun b hb => ?_⟩
    rw [upd_ne (Nat.ne_of_lt (Nat.lt_of_lt_of_le (lt i _ st b hb) hT))]
    exact (hf b hb).1
  done := by
    intro X hP hw hK hc i pins s σ H E I hf st hg
    subst hP hw hK
    have e : i = n := hg
    subst e
    refine (G X.A (I.ok.hd hc)).stops s _ _ st fun h' tk hk htk => ?_
    have sub := (G X.A (I.ok.hd hc)).sub
    refine I.step (g' := s.gens) (t' := tk) (d' := s.drawn) (ch := wr) (fun b hb => ?_) (fun b o _ _ hb e _ => hk b o hb e) (fun b o _ _ hb e _ => ⟨o.slots, hk b o hb e⟩) (fun _ _ _ _ z => z) (fun b o hb e => ⟨o, hk b o hb e⟩) (fun _ _ z => z) (fun _ _ _ z => z)
      (fun b ps z => ⟨#[], by rw [z]; simp⟩) (fun m hm => ?_) (fun b o e => ?_) I.bare
    · obtain ⟨f0, f1, f2, f3, f4, f5⟩ := hf b (sub b hb)
      exact ⟨f3, f1, f4, f5⟩
    · obtain ⟨o, es, ep, ho, r⟩ := hm
      exact ⟨o, es, ep, hk _ o (fun z => (hf _ (sub _ z)).2.1 rfl) ho, r⟩
    · refine (I.hok b o e).stay (fun c v hc z => hk c v (fun hm => ?_) z) (fun _ z => z) fun _ _ z => z
      have fr := (hf c (sub c hm)).1
      rcases hc with hc | hc
      · rw [hc, e] at fr
        cases fr
      · rw [hc] at fr
        cases fr
  self := self

/-! ### enumerate(text) -/
def sign (c : Nat) : Str := ⟨#[c]⟩
def iEnumS (ta : TA) : TI := fun σ H R => ta σ H fun vs H1 => ∃ x, vs = [.str x] ∧ R (Itn x.cps.size fun i => [.int (i : Nat), .str (sign (x.cps.getD i 0))]) H1
theorem pi_enumS {X : Cx} {e : Expr} {ta : TA} {p pos tpos : Pos} {elts : List Expr} {kk : Nat} (hc : X.calm = true) (hg : Gl X "enumerate") (hm : X.mg "enumerate" = none) (ha : PA X [e] ta) (hs : starEach [e] X.env = [(false, eval e X.env)] := by rfl) :
    PI X (.Tuple elts kk tpos) (.Call (.Name "enumerate" p) [e] [] pos) (iEnumS ta) := by
  refine ⟨fun pins s σ H R I h => Call_ (ld_blt I hg hm boot_enumerate (PyProof.Rows.callWith_type1 (thn (ha.run pos pins s σ H _ I h) fun us s1 hu => ?_) hs rfl))⟩
  · obtain ⟨vs, H1, I1, r1, x, rfl, q⟩ := hu
    obtain ⟨u, rfl, t, rfl⟩ := vals1 r1
    refine PySem.call_enumerate_str fun h' he hit hsz hk => wpAny_pyIter_enum he ?_
    have I2 : Inv X pins σ H1 { s1 with heap := h' } := I1.kept (t' := s1.toks) hk
    refine ⟨s1.heap.objs.size + 1, [s1.heap.objs.size + 1, s1.heap.objs.size], _, _, H1, rfl, I2, turn_new (wr := [s1.heap.objs.size + 1, s1.heap.objs.size]) (fun A hA => GoesN.enumFrom 0 (Draws.text (prog := X.prog) (w := X.w) (A := A.in1) hA s1.heap.objs.size x t) (s1.heap.objs.size + 1) (Nat.succ_ne_self _) (by simp) (by simp)) (by simp)
      (fun i h st b hb => ?_) (fun i => by show 2 ≤ sizeLine; decide) (fun i h₀ v h hi hy => ?_) (fun i h st b hb => ?_) (fun A i s Q E st hq => ?_), ⟨⟨.none, by simpa using he⟩, hit⟩, fun b hb => ?_, q⟩
    · obtain ⟨⟨old, e1⟩, o, e2, c2, d2⟩ := st
      have hb' : b = s1.heap.objs.size + 1 ∨ b = s1.heap.objs.size := by simpa using hb
      rcases hb' with z | z
      · rw [z]; exact ⟨_, e1, fun v q => nomatch q⟩
      · rw [z]; exact ⟨o, e2, fun v q => by rw [d2] at q; cases q⟩
    · obtain ⟨T, t, x', rfl, hT, ⟨c, u, hc, rfl⟩, tup⟩ := hy
      refine ⟨T, _, rfl, hT, tup, .cons ⟨t, ?_⟩ (.cons ⟨u, ?_⟩ .nil)⟩
      · have : (0 : Int) + (i : Int) = (i : Int) := by omega
        rw [this]
      · have : x.cps.getD i 0 = c := by rw [Array.getD_eq_getD_getElem?, hc]; rfl
        rw [this]; rfl
    · obtain ⟨⟨old, e1⟩, o, e2, c2, d2⟩ := st
      have hb' : b = s1.heap.objs.size + 1 ∨ b = s1.heap.objs.size := by simpa using hb
      rcases hb' with z | z
      · rw [z]; exact Heap.lt_size e1
      · rw [z]; exact Heap.lt_size e2
    · obtain ⟨⟨old, e1⟩, _⟩ := st
      exact wpAny_pyIter_enum e1 hq
    · have hb' : b = s1.heap.objs.size + 1 ∨ b = s1.heap.objs.size := by simpa using hb
      have hle : s1.heap.objs.size ≤ b := by
        rcases hb' with z | z
        · rw [z]; exact Nat.le_succ _
        · rw [z]; exact Nat.le_refl _
      exact I1.fpOk hle (I1.hok.fresh hle)
end LX

set_option Elab.async false
set_option linter.all false
set_option maxRecDepth 100000
set_option maxHeartbeats 4000000
namespace LX
open PySem PySem.Spec PyProof.Rows L2

/-! ### texts as lists of codes -/
def S (l : List Nat) : Str := ⟨l.toArray⟩
theorem S_len (l : List Nat) : (S l).length = l.length := by show l.toArray.size = _; simp
theorem S_cps (l : List Nat) : (S l).cps.toList = l := by show l.toArray.toList = l; simp
theorem S_of (x : Str) : x = S x.cps.toList := by cases x; simp [S]
theorem S_inj {a b : List Nat} (h : S a = S b) : a = b := by
  have := congrArg (fun x : Str => x.cps.toList) h
  simpa [S] using this
theorem S_app (a b : List Nat) : S a ++ S b = S (a ++ b) := by
  show (⟨a.toArray ++ b.toArray⟩ : Str) = ⟨(a ++ b).toArray⟩
  simp
theorem S_sign (c : Nat) : (⟨#[c]⟩ : Str) = S [c] := rfl
theorem S_cut (l : List Nat) (lo hi : Option Int) : cutS (S l) lo hi = S ((l.drop (HT.sIx l.length 0 lo)).take (HT.sIx l.length l.length hi - HT.sIx l.length 0 lo)) := by
  unfold cutS
  rw [S_len, S_cps]
  rfl
theorem S_dec (a b : List Nat) : decide (V.str (S a) = V.str (S b)) = decide (a = b) := by
  by_cases h : a = b
  · subst h; simp
  · rw [decide_eq_false h, decide_eq_false fun q => h (S_inj (V.str.inj q))]
theorem line1000 {n : Nat} (h : n ≤ 16000000) : n ≤ sizeLine := by rw [sizeLine_eq]; omega

section
variable {X : Cx}
/-! ### a list + a list, each only read -/
def rCatS (K : PySem.W.Frag) : R2 := fun x y H Q => ∃ l b xs zs, x = .ref l ∧ y = .ref b ∧ SqL K H l xs ∧ SqL K H b zs ∧ xs.length + zs.length ≤ sizeLine ∧ ∀ p, H p = none → Q (.ref p) (upd H p (.lst (xs ++ zs)))
theorem op_catS : OpR X (binaryOp .Add) (rCatS X.K) := by
  intro pins s σ H x y v u Q I rx ry h
  obtain ⟨l, b, xs, zs, rfl, rfl, hx, hz, hl, q⟩ := h
  cases rx
  cases ry
  obtain ⟨its, r, pl, _⟩ := I.list hx
  obtain ⟨its2, r2, pl2, _⟩ := I.list hz
  have e1 := r.length
  have e2 := r2.length
  obtain ⟨⟨c1, d1, t1, s1⟩, n1, g1, rfl, _, rfl⟩ := pl
  obtain ⟨⟨c2, d2, t2, s2⟩, n2, g2, rfl, _, rfl⟩ := pl2
  refine concat_meets ⟨_, g1, rfl⟩ ⟨_, g2, rfl⟩ noFill_list_add seq_list_add PySem.F.slot_list_add PySem.F.entry_list_add (PySem.F.args_list_add_2 _ _) (list_addW l b its.toArray its2.toArray n1 n2 d1 d2 s1 s2 (by simp; omega)) ⟨g1, g2, ?_⟩
  have ea : its.toArray ++ its2.toArray = (its ++ its2).toArray := by simp
  rw [ea]
  exact ⟨.ref _, _, I.lnew (t' := s.toks) (r.append r2) (by rw [List.length_append]; omega), rfl, q _ I.fresh⟩
/-! ### a text times an int -/
def rRepS : R2 := fun x y H Q => ∃ z k, x = .str z ∧ y = .int k ∧ 0 ≤ k ∧ k < 2 ^ 40 ∧ z.length * k.toNat ≤ sizeLine ∧ Q (.str (S (List.replicate k.toNat z.cps.toList).flatten)) H
theorem rep_arr (a : Array Nat) : ∀ k : Nat, (List.replicate k a).foldl (· ++ ·) #[] = ((List.replicate k a.toList).flatten).toArray := by
  have gen : ∀ (k : Nat) (b : List Nat), (List.replicate k a).foldl (· ++ ·) b.toArray = (b ++ (List.replicate k a.toList).flatten).toArray := by
    intro k
    induction k with
    | zero => intro b; simp
    | succ k ih =>
      intro b
      rw [List.replicate_succ, List.foldl_cons, List.replicate_succ, List.flatten_cons, ← List.append_assoc, ← ih]
      congr 1
      apply Array.toList_inj.mp
      simp
  intro k
  have := gen k []
  simpa using this
theorem op_repS : OpR X (binaryOp .Mult) rRepS := by
  intro pins s σ H x y v u Q I rx ry h
  obtain ⟨z, k, rfl, rfl, h0, h1, hz, q⟩ := h
  obtain ⟨t, rfl⟩ := rx
  obtain ⟨t', rfl⟩ := ry
  have hl := sizeLine_eq
  have hzl : z.length = z.cps.toList.length := by show z.cps.size = _; simp
  refine PySem.P.mul_str ?_ (fun hk _ => ?_) (fun hk _ => ?_) ?_
  · have a1 : ¬ k < -(2 ^ 63 : Int) := by omega
    have a2 : ¬ k ≥ 2 ^ 63 := by omega
    rw [decide_eq_false a1, decide_eq_false a2]; rfl
  · have hk1 : 0 < k := by omega
    have hm : (z.length : Int) * k ≤ 2 ^ 63 - 1 := by
      have : ((z.length * k.toNat : Nat) : Int) ≤ 16777216 := by omega
      rw [Int.natCast_mul, Int.toNat_of_nonneg h0] at this
      omega
    have : (z.length : Int) ≤ (2 ^ 63 - 1) / k := (Int.le_ediv_iff_mul_le hk1).mpr hm
    omega
  · exact decide_eq_false (Nat.not_lt_of_le hz)
  · by_cases hk : k < 1
    · rw [if_pos hk]
      have : k.toNat = 0 := by omega
      rw [this] at q
      exact ⟨by decide, .str _, H, I.tok _, ⟨_, rfl⟩, q⟩
    · rw [if_neg hk]
      by_cases hb : (k == 1 || z.length == 0) = true
      · rw [if_pos hb]
        have e : (List.replicate k.toNat z.cps.toList).flatten = z.cps.toList := by
          rcases Bool.or_eq_true _ _ |>.mp hb with hb | hb
          · have : k = 1 := by simpa using hb
            subst this
            simp
          · have : z.cps.toList = [] := List.eq_nil_of_length_eq_zero (by rw [← hzl]; simpa using hb)
            rw [this]; simp
        rw [e, ← S_of z] at q
        exact ⟨.str z, H, I, ⟨t, rfl⟩, q⟩
      · rw [if_neg hb, rep_arr]
        refine ⟨?_, .str _, H, I.tok _, ⟨_, rfl⟩, q⟩
        show ((List.replicate k.toNat z.cps.toList).flatten).toArray.size ≤ sizeLine
        rw [List.size_toArray, PyProof.Rows.lm_len_rep_flat, ← hzl, Nat.mul_comm]
        exact hz
/-! ### o.f among several targets -/
def gFld (K : PySem.W.Frag) (to : TE) (f : Str) : TG := fun v σ H Q => to σ H fun x H1 => ∃ a C dx fs, x = .ref a ∧ H1 a = some (.ins C dx fs) ∧ Cls K C ∧ NoAttr K C f ∧ fs.length < 1000 ∧ Q σ (upd H1 a (.ins C dx (putF f v fs)))
theorem pg_fld {o : Expr} {f : Str} {to : TE} {pos : Pos} (ho : PE X o to) : PG X (.Attribute o f pos) (gFld X.K to f) := by
  refine ⟨fun pins s σ H v u Q I r h => ?_⟩
  rw [assign_Attribute]
  refine wpAny_bind (wpAny_holding (thn (ho.run pins s σ H _ I h) fun ov s1 hu => ?_))
  obtain ⟨x, H1, I1, r1, a, C, dx, fs, rfl, ea, c, n, l, q⟩ := hu
  obtain rfl : ov = Value.ref a := r1
  refine wpAny_bind (wpAny_standAt (wpAny_bind (wpAny_holding (setattr_ok I1 ea c n l r fun s2 I2 => ?_))))
  exact wpAny_release ⟨σ, _, I2, q⟩
end
end LX

set_option Elab.async false
set_option linter.all false
set_option maxRecDepth 100000
set_option maxHeartbeats 4000000
namespace LX
open PySem PySem.Spec PyProof.Rows L2

/-! ### operations by name -/
def rAddI : R2 := rI0 fun i j => .int (i + j)
def rSubI : R2 := rI0 fun i j => .int (i - j)
def rMulI : R2 := rI CMul fun i j => .int (i * j)
def rDivI : R2 := rI CDiv fun i j => .int (i / j)
def CPos (_ j : Int) : Prop := 0 < j
def rModI : R2 := rI CPos fun i j => .int (i % j)
def rPowI : R2 := rI CPow fun i j => .int (i ^ j.toNat)
def rLtI : R2 := rI0 fun i j => .bl (decide (i < j))
def rLeI : R2 := rI0 fun i j => .bl (decide (i ≤ j))
def rGtI : R2 := rI0 fun i j => .bl (decide (j < i))
def rGeI : R2 := rI0 fun i j => .bl (decide (j ≤ i))
def rAddS : R2 := fun x y H Q => ∃ i j, x = .str i ∧ y = .str j ∧ i.length + j.length ≤ sizeLine ∧ Q (.str (i ++ j)) H
def rInG : R2 := fun x y H Q => ∃ (c : Nat) (z : Str), x = .str ⟨#[c]⟩ ∧ y = .str z ∧ Q (.bl (decide (c ∈ z.cps.toList))) H
def rNinG : R2 := fun x y H Q => ∃ (c : Nat) (z : Str), x = .str ⟨#[c]⟩ ∧ y = .str z ∧ Q (.bl (!decide (c ∈ z.cps.toList))) H
def rIsNone : R2 := fun x y H Q => y = .non ∧ Q (.bl (decide (x = .non))) H
def rNotNone : R2 := fun x y H Q => y = .non ∧ Q (.bl (!decide (x = .non))) H
def uNeg : V → Hp → VK → Prop := rU fun i => .int (-i)
def rLen (K : PySem.W.Frag) : List V → Hp → VK → Prop := fun xs H Q => ∃ x n, xs = [x] ∧ LenV K x H n ∧ Q (.int n) H
def rInt : List V → Hp → VK → Prop := fun xs H Q => (∃ i, xs = [.int i] ∧ Q (.int i) H) ∨ ∃ k, xs = [.bl k] ∧ Q (.int (if k then 1 else 0)) H
def rAbs : List V → Hp → VK → Prop := fun xs H Q => ∃ i, xs = [.int i] ∧ Q (.int (if i < 0 then -i else i)) H
section
variable {X : Cx}
theorem o_addI : OpR X (binaryOp .Add) rAddI := op_add
theorem o_subI : OpR X (binaryOp .Sub) rSubI := op_sub
theorem o_mulI : OpR X (binaryOp .Mult) rMulI := op_mul
theorem o_divI : OpR X (binaryOp .FloorDiv) rDivI := op_fdiv
theorem o_modI : OpR X (binaryOp .Mod) rModI := op_mod
theorem o_powI : OpR X (binaryOp .Pow) rPowI := op_pow
theorem o_ltI : OpR X (compareOp .Lt) rLtI := op_lt
theorem o_leI : OpR X (compareOp .LtE) rLeI := op_le
theorem o_gtI : OpR X (compareOp .Gt) rGtI := op_gt
theorem o_geI : OpR X (compareOp .GtE) rGeI := op_ge
theorem o_addS : OpR X (binaryOp .Add) rAddS := op_add_str
theorem o_inG : OpR X (compareOp .In) rInG := op_in_sign
theorem o_ninG : OpR X (compareOp .NotIn) rNinG := op_notIn_sign
theorem o_isNone : OpR X (compareOp .Is) rIsNone := op_isN
theorem o_notNone : OpR X (compareOp .IsNot) rNotNone := op_notN
theorem u_neg : UnR X (unaryOp .USub) uNeg := un_neg
theorem c_len : CallR X (.builtin "len") (rLen X.K) := call_len
theorem c_int : CallR X (.type "int") rInt := call_int1
theorem c_abs : CallR X (.builtin "abs") rAbs := call_abs
/-- a global constant -/
theorem pe_g {x : Str} {v : V} {pos : Pos} (h : ∃ u, X.mg x = some u ∧ RelV v u) (hg : Gl X x := by rfl) (hd : (x == ("__debug__" : Str)) = false := by decide) : PE X (.Name x pos) (tC v) := by
  obtain ⟨u, e, r⟩ := h
  exact pe_glob hg e r hd
/-- a built-in class as a value -/
theorem pe_b {x : Str} {n : String} {pos : Pos} (hm : X.mg x = none) (hv : bootBuiltins x = some (.type n)) (hg : Gl X x := by rfl) (hn : x ≠ "__name__" := by decide) (hd : (x == ("__debug__" : Str)) = false := by decide) : PE X (.Name x pos) (tC (.ty n)) :=
  pe_bltn hg hm hv rfl hn hd
/-- raise C(e): what the error's making asks -/
def MkEnd (K : PySem.W.Frag) (C : Addr) (f : Str) (vs : List V) (H1 : Hp) (Q : XK) : Prop := vs.length ≤ 1000 ∧ ∀ a, H1 a = none → spInit1 K C f (.ref a :: (vs ++ [])) (upd H1 a (exo a C none))
  (fun v H2 => v = .non ∧ ∃ (d : Addr) (fs : List (Str × V)), H2 a = some (exo a C (some d)) ∧ H2 d = some (exd d fs) ∧ H1 d = none ∧ Q (.ref C) (some d) (upd (del H2 a) d (.xd fs))) (fun _ _ _ => False)
def tRz (K : PySem.W.Frag) (C : Addr) (f : Str) (W : WX) (te : TE) : TS := fun _ σ H => te σ H fun y H1 => MkEnd K C f [y] H1 fun cls d H' => W cls d σ H'
theorem ps_rz {x f : Str} {C fI : Addr} {fd : FuncData} {ps : List Str} {W : WX} {e : Expr} {te : TE} {p pos pos' : Pos} (T : Exc1 X x C f fI fd ps) (hr : Room 2 X.A) (hc : X.calm = true) (tk : Takes X W) (he : PE X e te) (hg : Gl X x := by rfl)
    (hdb : (x == ("__debug__" : Str)) = false := by decide) (hst : starEach [e] X.env = (false, eval e X.env) :: starEach [] X.env := by rfl) (hpl : (backTo pos (starEach [] X.env)).any (·.1) = false := by rfl) :
    PS X (.Raise (some (.Call (.Name x p) [e] [] pos)) none pos') (tRz X.K C f W te) :=
  ps_raise (pos := pos') hc tk (pmk_oex (ds := []) T.T T.iC T.tI T.F hr T.b .nil passL hg T.gC (pa_cons he pa_nil hst) hdb hst hpl)
end
theorem w_mk {K : PySem.W.Frag} {C : Addr} {f : Str} {y : V} {H1 : Hp} {Q : XK} (T : OexC K C) (no : PySem.W.findIn K (.ref C) f = some none) (h : ∀ d, H1 d = none → Q (.ref C) (some d) (upd H1 d (.xd [(f, y)]))) : MkEnd K C f [y] H1 Q :=
  spInit1_mk (te := fun _ H Q => Q y H) (σ := []) (H := H1) T no h fun Q Q' hQ q => hQ _ _ q

/-! ### readings, step by step -/
section
variable {K : PySem.W.Frag} {σ : L2.St} {H : Hp} {D : Ends} {Q : VK} {v x y z : V} {i j : Int} {n : Nat} {ta tb te tc : TE} {t u c : TT} {t1 t2 : TS} {g : TG} {ts tr : TA} {R : Bool → Hp → Prop} {QA : List V → Hp → Prop}
theorem w_seq (h : t1 { D with nx := t2 D } σ H) : tSeq t1 t2 D σ H := h
theorem w_next (h : D.nx σ H) : tNext D σ H := h
theorem w_brk (h : D.bk σ H) : tBreak D σ H := h
theorem w_cont (h : D.ct σ H) : tCont D σ H := h
theorem w_asg (h : te σ H fun x H1 => g x σ H1 D.nx) : tAsg te g D σ H := h
theorem w_name {N : L2.St → Hp → Prop} (h : N (σ.set n (some v)) H) : gName n v σ H N := h
theorem w_ret (h : te σ H D.rt) : tRet te D σ H := h
theorem w_retN (h : D.rt .non H) : tRetN D σ H := h
theorem w_drop (h : te σ H fun _ H1 => D.nx σ H1) : tDrop te D σ H := h
theorem w_ifS (h : c σ H fun b H1 => if b = true then t1 D σ H1 else t2 D σ H1) : tIfS c t1 t2 D σ H := h
theorem w_var (e : σ[n]? = some (some v)) (h : Q v H) : tVar n σ H Q := ⟨v, e, h⟩
theorem w_c (h : Q v H) : tC v σ H Q := h
theorem w_op {r : R2} (h : ta σ H fun x H1 => tb σ H1 fun y H2 => r x y H2 Q) : tOp r ta tb σ H Q := h
theorem w_un {r : V → Hp → VK → Prop} (h : ta σ H fun x H1 => r x H1 Q) : tUn r ta σ H Q := h
theorem w_test (h : te σ H fun x H' => ∃ k, x = .bl k ∧ R k H') : tTest te σ H R := h
theorem w_B (h : te σ H fun x H' => ∃ k, x = .bl k ∧ R k H') : tB te σ H R := h
theorem w_tAnd (h : t σ H fun c H1 => if c = true then u σ H1 R else R false H1) : tAnd t u σ H R := h
theorem w_tOr (h : t σ H fun c H1 => if c = true then R true H1 else u σ H1 R) : tOr t u σ H R := h
theorem w_tNot (h : t σ H fun c H1 => R (!c) H1) : tNot t σ H R := h
theorem w_andV (h : ta σ H fun x H1 => ∃ c, x = .bl c ∧ if c = true then tb σ H1 Q else Q (.bl false) H1) : tAndV ta tb σ H Q := h
theorem w_orV (h : ta σ H fun x H1 => ∃ c, x = .bl c ∧ if c = true then Q (.bl true) H1 else tb σ H1 Q) : tOrV ta tb σ H Q := h
theorem w_notV (h : ta σ H fun x H1 => ∃ c, x = .bl c ∧ Q (.bl (!c)) H1) : tNotV ta σ H Q := h
theorem w_if (h : t σ H fun c H1 => if c = true then ta σ H1 Q else tb σ H1 Q) : tIf t ta tb σ H Q := h
theorem w_nil (h : QA [] H) : tNil σ H QA := h
theorem w_cons (h : te σ H fun x H1 => tr σ H1 fun xs H2 => QA (x :: xs) H2) : tCons te tr σ H QA := h
theorem w_tup (h : ts σ H fun xs H1 => xs.length ≤ sizeLine ∧ ∀ p, H1 p = none → Q (.ref p) (upd H1 p (.tup xs))) : tTup ts σ H Q := h
theorem w_lst (h : ts σ H fun xs H1 => xs.length ≤ sizeLine ∧ ∀ p, H1 p = none → Q (.ref p) (upd H1 p (.lst xs))) : tLst ts σ H Q := h
theorem w_cb {r : List V → Hp → VK → Prop} (h : ts σ H fun vs H1 => r vs H1 Q) : tCB r ts σ H Q := h
theorem w_call {sp : Sp} {dvs : List V} {E : XK} (h : ts σ H fun vs H1 => sp (vs ++ dvs) H1 Q E) : tCall sp dvs E ts σ H Q := h
theorem w_callS {sp : Sp} {E : L2.St → XK} (h : ts σ H fun vs H1 => sp vs H1 Q (E σ)) : tCallS sp E ts σ H Q := h
theorem w_addI (h : Q (.int (i + j)) H) : rAddI (.int i) (.int j) H Q := ⟨i, j, rfl, rfl, h⟩
theorem w_subI (h : Q (.int (i - j)) H) : rSubI (.int i) (.int j) H Q := ⟨i, j, rfl, rfl, h⟩
theorem w_mulI (c : CMul i j) (h : Q (.int (i * j)) H) : rMulI (.int i) (.int j) H Q := ⟨i, j, rfl, rfl, c, h⟩
theorem w_divI (c : CDiv i j) (h : Q (.int (i / j)) H) : rDivI (.int i) (.int j) H Q := ⟨i, j, rfl, rfl, c, h⟩
theorem w_modI (c : 0 < j) (h : Q (.int (i % j)) H) : rModI (.int i) (.int j) H Q := ⟨i, j, rfl, rfl, c, h⟩
theorem w_powI (c : CPow i j) (h : Q (.int (i ^ j.toNat)) H) : rPowI (.int i) (.int j) H Q := ⟨i, j, rfl, rfl, c, h⟩
theorem w_ltI (h : Q (.bl (decide (i < j))) H) : rLtI (.int i) (.int j) H Q := ⟨i, j, rfl, rfl, h⟩
theorem w_leI (h : Q (.bl (decide (i ≤ j))) H) : rLeI (.int i) (.int j) H Q := ⟨i, j, rfl, rfl, h⟩
theorem w_gtI (h : Q (.bl (decide (j < i))) H) : rGtI (.int i) (.int j) H Q := ⟨i, j, rfl, rfl, h⟩
theorem w_geI (h : Q (.bl (decide (j ≤ i))) H) : rGeI (.int i) (.int j) H Q := ⟨i, j, rfl, rfl, h⟩
theorem w_addS {a b : Str} (c : a.length + b.length ≤ sizeLine) (h : Q (.str (a ++ b)) H) : rAddS (.str a) (.str b) H Q := ⟨a, b, rfl, rfl, c, h⟩
theorem w_eq (c : scal x y = true) (h : Q (.bl (decide (x = y))) H) : rEq x y H Q := ⟨c, h⟩
theorem w_ne (c : scal x y = true) (h : Q (.bl (!decide (x = y))) H) : rNe x y H Q := ⟨c, h⟩
theorem w_isNone (h : Q (.bl (decide (x = .non))) H) : rIsNone x .non H Q := ⟨rfl, h⟩
theorem w_notNone (h : Q (.bl (!decide (x = .non))) H) : rNotNone x .non H Q := ⟨rfl, h⟩
theorem w_neg (h : Q (.int (-i)) H) : uNeg (.int i) H Q := ⟨i, rfl, h⟩
theorem w_ixL {p : Addr} {xs : List V} (s : SqL K H p xs) (e : atI xs i = some v) (h : Q v H) : rIxL K (.ref p) (.int i) H Q := ⟨p, xs, i, v, rfl, rfl, s, e, h⟩
theorem w_ixT {p : Addr} {xs : List V} (s : SqT K H p xs) (e : atI xs i = some v) (h : Q v H) : rIxT K (.ref p) (.int i) H Q := ⟨p, xs, i, v, rfl, rfl, s, e, h⟩
theorem w_intI (h : Q (.int i) H) : rInt [.int i] H Q := .inl ⟨i, rfl, h⟩
theorem w_intB {b : Bool} (h : Q (.int (if b then 1 else 0)) H) : rInt [.bl b] H Q := .inr ⟨b, rfl, h⟩
theorem w_abs (h : Q (.int (if i < 0 then -i else i)) H) : rAbs [.int i] H Q := ⟨i, rfl, h⟩
theorem w_lenS {a : Str} (c : a.length ≤ sizeLine) (h : Q (.int a.length) H) : rLen K [.str a] H Q := ⟨_, _, rfl, ⟨c, rfl⟩, h⟩
theorem w_lenL {p : Addr} {xs : List V} (s : SqL K H p xs) (h : Q (.int xs.length) H) : rLen K [.ref p] H Q := ⟨_, _, rfl, .inl ⟨xs, s, rfl⟩, h⟩
theorem w_lenT {p : Addr} {xs : List V} (s : SqT K H p xs) (h : Q (.int xs.length) H) : rLen K [.ref p] H Q := ⟨_, _, rfl, .inr ⟨xs, s, rfl⟩, h⟩
theorem w_bl {b : Bool} {F : Bool → Prop} (h : F b) : ∃ k, V.bl b = .bl k ∧ F k := ⟨b, rfl, h⟩
theorem w_fld {f : Str} {a C dx : Addr} {fs : List (Str × V)} (ho : H a = some (.ins C dx fs)) (c : Cls K C) (n : NoAttr K C f) (l : fs.lookup f = some v) (h : Q v H) : tFld K (tC (.ref a)) f σ H Q := ⟨a, C, dx, fs, v, rfl, ho, c, n, l, h⟩
theorem w_fld0 {f : Str} (h : ta σ H fun x H1 => ∃ a C dx fs v, x = .ref a ∧ H1 a = some (.ins C dx fs) ∧ Cls K C ∧ NoAttr K C f ∧ fs.lookup f = some v ∧ Q v H1) : tFld K ta f σ H Q := h
theorem w_sFld {f : Str} (h : te σ H fun y H1 => ta σ H1 fun x H2 => ∃ a C dx fs, x = .ref a ∧ H2 a = some (.ins C dx fs) ∧ Cls K C ∧ NoAttr K C f ∧ fs.length < 1000 ∧ D.nx σ (upd H2 a (.ins C dx (putF f y fs)))) : sFld K ta te f D σ H := h
theorem w_sl {r : V → Option Int → Option Int → Hp → VK → Prop} {tl th : TO} (h : te σ H fun x H1 => tl σ H1 fun l H2 => th σ H2 fun u H3 => r x l u H3 Q) : tSl r te tl th σ H Q := h
theorem w_noPart {QO : Option Int → Hp → Prop} (h : QO none H) : tNoPart σ H QO := h
theorem w_part {QO : Option Int → Hp → Prop} (h : te σ H fun x H1 => ∃ i, x = .int i ∧ QO (some i) H1) : tPart te σ H QO := h
theorem w_partI {F : Int → Prop} (h : F i) : ∃ k, V.int i = .int k ∧ F k := ⟨i, rfl, h⟩
theorem w_slS {a : Str} {lo hi : Option Int} (c : a.length ≤ sizeLine) (h : Q (.str (cutS a lo hi)) H) : rSlS (.str a) lo hi H Q := ⟨a, rfl, c, h⟩
theorem w_rz {C : Addr} {f : Str} {W : WX} (h : te σ H fun y H1 => MkEnd K C f [y] H1 fun cls d H' => W cls d σ H') : tRz K C f W te D σ H := h
theorem w_meth {C : Addr} {m : Str} {sp : Sp} {dvs : List V} {E : XK} (h : ta σ H fun x H1 => ∃ a dx fs, x = .ref a ∧ H1 a = some (.ins C dx fs) ∧ fs.lookup m = none ∧ ts σ H1 fun vs H2 => sp (x :: (vs ++ dvs)) H2 Q E) : tMeth C m sp dvs E ta ts σ H Q := h
theorem w_methG {C : Addr} {m : Str} {sp : Sp} {E : L2.St → XK} (h : ta σ H fun x H1 => ∃ a dx fs, x = .ref a ∧ H1 a = some (.ins C dx fs) ∧ fs.lookup m = none ∧ ts σ H1 fun vs H2 => sp (x :: vs) H2 Q (E σ)) : tMethG C m sp E ta ts σ H Q := h
theorem w_ite {p A B : Prop} [Decidable p] (h1 : p → A) (h2 : ¬ p → B) : if decide p = true then A else B := by
  by_cases h : p
  · rw [if_pos (decide_eq_true h)]; exact h1 h
  · rw [if_neg (by rw [decide_eq_false h]; exact Bool.false_ne_true)]; exact h2 h
theorem w_iteN {p A B : Prop} [Decidable p] (h1 : ¬ p → A) (h2 : p → B) : if (!decide p) = true then A else B := by
  by_cases h : p
  · rw [decide_eq_true h]; exact iteF (h2 h)
  · rw [decide_eq_false h]; exact iteT (h1 h)
theorem w_iteB {b : Bool} {A B : Prop} (h1 : b = true → A) (h2 : b = false → B) : if b = true then A else B := by
  cases b with
  | true => exact iteT (h1 rfl)
  | false => exact iteF (h2 rfl)
theorem up_new {o u : HO} {a p : Addr} (hp : H p = none) (h : H a = some o) : upd H p u a = some o := by rw [upd_ne (ne_of_none h hp)]; exact h
theorem up_mut {o u w : HO} {a p : Addr} (hp : H p = some w) (hn : o ≠ w) (h : H a = some o) : upd H p u a = some o := by rw [upd_ne (ne_of h hp hn)]; exact h
theorem up_ne {o u : HO} {a p : Addr} (hp : a ≠ p) (h : H a = some o) : upd H p u a = some o := by rw [upd_ne hp]; exact h
end
end LX

set_option Elab.async false
set_option linter.all false
set_option maxRecDepth 100000
set_option maxHeartbeats 4000000
namespace LX
open PySem PySem.Spec PyProof.Rows L2
/-- 'except n' names an error of class c or does not: by the classes -/
theorem exm_of {K : PySem.W.Frag} {c n : Addr} {b : Bool} (h1 : PySem.W.subIn K (.ref n) (.type "BaseException") = some true) (h2 : PySem.W.isClsIn K n = true) (h3 : PySem.W.typeIn K (.ref n) = some (.type "type"))
    (h4 : PySem.W.subIn K (.ref c) (.ref n) = some b) : PySem.W.exmOne K (.ref c) (.ref n) = some b := by
  have e1 : (PySem.W.subIn K (.ref n) (.type "BaseException") == some true) = true := by rw [h1] <;> rfl
  have e2 : ((PySem.W.clsIn K n).isSome && PySem.W.typeIn K (.ref n) == some (.type "type")) = true := by
    rw [show (PySem.W.clsIn K n).isSome = true from h2, h3] <;> rfl
  show (if (PySem.W.subIn K (.ref n) (.type "BaseException") == some true) = true then (if ((PySem.W.clsIn K n).isSome && PySem.W.typeIn K (.ref n) == some (.type "type")) = true then PySem.W.subIn K (.ref c) (.ref n) else none) else none) = some b
  rw [if_pos e1, if_pos e2, h4]
theorem hu64 {A : Around} {k : Nat} (hr : Room k A) : A.units + 64 < cLine := hr.units
end LX

set_option Elab.async false
set_option linter.all false
set_option maxRecDepth 100000
set_option maxHeartbeats 4000000
namespace LX
open PySem PySem.Spec PyProof.Rows L2
/-- an iterator whose items are known, n of them -/
structure Fix (J : It) (n : Nat) (v : Nat → V) : Prop where
  go : ∀ i H, i < n → J.go i H
  stop : ∀ H, J.stop n H
  yld : ∀ i H x H', i < n → J.yld i H x H' → x = v i ∧ H' = H
theorem fix_str (x : Str) : Fix (Its x) x.cps.size fun i => .str ⟨#[x.cps.getD i 0]⟩ :=
  ⟨fun _ _ h => h, fun _ => Nat.le_refl _, fun i H y H' _ h => by
    obtain ⟨e, c, hc, ey⟩ := h
    refine ⟨?_, e⟩
    rw [ey, Array.getD_eq_getD_getElem?, hc]
    rfl⟩
theorem fix_rng (lo : Int) (n : Nat) : Fix (Itr lo n) n fun i => .int (lo + (i : Nat)) := ⟨fun _ _ h => h, fun _ => Nat.le_refl _, fun _ _ _ _ _ h => ⟨h.2, h.1⟩⟩
section
variable {J : It} {n : Nat} {v : Nat → V} {g : TG} {tt : TT} {te : TE} {vs : List Nat} {σ : L2.St} {H1 : Hp} {Dl : Addr} {Qd : Hp → Prop}
/-- what a comprehension asks, over known items -/
theorem lc_fix (F : Fix J n v) (Pv : Nat → Hp → Prop) (h0 : Pv 0 (upd H1 Dl (.lst [])))
    (hs : ∀ i H, i < n → Pv i H → g (v i) (wipe σ vs) H fun σ2 H2 => wipe σ2 vs = wipe σ vs ∧ tt σ2 H2 fun b H3 =>
      if b = true then te σ2 H3 fun y H4 => ∃ acc, H4 Dl = some (.lst acc) ∧ acc.length < sizeLine ∧ Pv (i + 1) (upd H4 Dl (.lst (acc ++ [y]))) else Pv (i + 1) H3) (hd : ∀ H, Pv n H → Qd H) :
    ∃ W : Nat → Nat → Hp → Prop, (∃ m, W 0 m (upd H1 Dl (.lst []))) ∧ ∀ i m H, W i m H →
      (J.stop i H ∧ Qd H) ∨ (J.go i H ∧ ∃ Nx : Hp → Prop, (∀ H', Nx H' → ∃ m', m' < m ∧ W (i + 1) m' H') ∧ ∀ x H', J.yld i H x H' → g x (wipe σ vs) H' fun σ2 H2 => wipe σ2 vs = wipe σ vs ∧ tt σ2 H2 fun b H3 =>
        if b = true then te σ2 H3 fun y H4 => ∃ acc, H4 Dl = some (.lst acc) ∧ acc.length < sizeLine ∧ Nx (upd H4 Dl (.lst (acc ++ [y]))) else Nx H3) := by
  refine ⟨fun i m H => m = n - i ∧ i ≤ n ∧ Pv i H, ⟨n, by simp, Nat.zero_le _, h0⟩, ?_⟩
  rintro i m H ⟨rfl, hi, p⟩
  by_cases hlt : i < n
  · refine .inr ⟨F.go i H hlt, Pv (i + 1), fun H' p' => ⟨n - (i + 1), by omega, rfl, hlt, p'⟩, fun x H' y => ?_⟩
    obtain ⟨rfl, rfl⟩ := F.yld i H x H' hlt y
    exact hs i _ hlt p
  · have e : i = n := by omega
    subst e
    exact .inl ⟨F.stop H, hd H p⟩
/-- the same of a for -/
theorem for_fix {tb : TS} {D : Ends} {σ : L2.St} {H : Hp} (F : Fix J n v) (Pv : Nat → L2.St → Hp → Prop) (h0 : Pv 0 σ H)
    (hs : ∀ i σ H, i < n → Pv i σ H → g (v i) σ H fun σ2 H2 => tb { D with nx := Pv (i + 1), ct := Pv (i + 1), bk := D.nx } σ2 H2) (hd : ∀ σ H, Pv n σ H → D.nx σ H) :
    ∃ W : Nat → Nat → L2.St → Hp → Prop, (∃ m, W 0 m σ H) ∧ ∀ i m σ H, W i m σ H →
      (J.stop i H ∧ D.nx σ H) ∨ (J.go i H ∧ ∃ N : L2.St → Hp → Prop, (∀ σ' H', N σ' H' → ∃ m', m' < m ∧ W (i + 1) m' σ' H') ∧ ∀ x H', J.yld i H x H' → g x σ H' fun σ2 H2 => tb { D with nx := N, ct := N, bk := D.nx } σ2 H2) := by
  refine ⟨fun i m σ H => m = n - i ∧ i ≤ n ∧ Pv i σ H, ⟨n, by simp, Nat.zero_le _, h0⟩, ?_⟩
  rintro i m σ H ⟨rfl, hi, p⟩
  by_cases hlt : i < n
  · refine .inr ⟨F.go i H hlt, Pv (i + 1), fun σ' H' p' => ⟨n - (i + 1), by omega, rfl, hlt, p'⟩, fun x H' y => ?_⟩
    obtain ⟨rfl, rfl⟩ := F.yld i H x H' hlt y
    exact hs i σ _ hlt p
  · have e : i = n := by omega
    subst e
    exact .inl ⟨F.stop H, hd σ H p⟩
/-- a filter: the test is pure, the element is the item -/
theorem lc_filter {i : Nat} (F : Fix J n v) (f : Nat → Bool) (hn : n ≤ 16000000) (hD : H1 Dl = none) (hw : ∀ x, wipe ((wipe σ [i]).set i (some x)) [i] = wipe σ [i]) (hi : ∀ x, ((wipe σ [i]).set i (some x))[i]? = some (some x))
    (ht : ∀ j H R, j < n → Same H1 H → R (f j) H → tt ((wipe σ [i]).set i (some (v j))) H R) (hd : ∀ H, Same H1 H → H Dl = some (.lst (((List.range n).filter f).map v)) → Qd H) :
    ∃ W : Nat → Nat → Hp → Prop, (∃ m, W 0 m (upd H1 Dl (.lst []))) ∧ ∀ k m H, W k m H →
      (J.stop k H ∧ Qd H) ∨ (J.go k H ∧ ∃ Nx : Hp → Prop, (∀ H', Nx H' → ∃ m', m' < m ∧ W (k + 1) m' H') ∧ ∀ x H', J.yld k H x H' → gName i x (wipe σ [i]) H' fun σ2 H2 => wipe σ2 [i] = wipe σ [i] ∧ tt σ2 H2 fun b H3 =>
        if b = true then tVar i σ2 H3 fun y H4 => ∃ acc, H4 Dl = some (.lst acc) ∧ acc.length < sizeLine ∧ Nx (upd H4 Dl (.lst (acc ++ [y]))) else Nx H3) := by
  refine lc_fix F (fun k H => Same H1 H ∧ H Dl = some (.lst (((List.range k).filter f).map v))) ⟨fun b o e => up_new hD e, upd_same⟩ (fun k H hk ⟨s, e⟩ => ⟨hw _, ht k H _ hk s ?_⟩) (fun H ⟨s, e⟩ => hd H s e)
  cases hf : f k with
  | false =>
    refine iteF ⟨s, ?_⟩
    rw [e, List.range_succ, List.filter_append, List.filter_cons, if_neg (by rw [hf]; exact Bool.false_ne_true)]
    simp
  | true =>
    refine iteT ⟨v k, hi _, _, e, ?_, fun b o hb => ?_, ?_⟩
    · have h1 : (((List.range k).filter f).map v).length ≤ k := by
        rw [List.length_map]
        exact Nat.le_trans (List.length_filter_le _ _) (by simp)
      rw [sizeLine_eq]
      omega
    · rw [upd_ne (ne_of_none hb hD)]
      exact s b o hb
    · rw [upd_same, List.range_succ, List.filter_append, List.filter_cons, if_pos hf]
      simp
end
end LX

set_option Elab.async false
set_option linter.all false
set_option maxRecDepth 100000
set_option maxHeartbeats 4000000
namespace LX
open PySem PySem.Spec PyProof.Rows L2
/-- the same where the heap has to keep something -/
structure FixR (R : Hp → Prop) (J : It) (n : Nat) (v : Nat → V) : Prop where
  go : ∀ i H, R H → i < n → J.go i H
  stop : ∀ H, R H → J.stop n H
  yld : ∀ i H x H', R H → i < n → J.yld i H x H' → x = v i ∧ H' = H
theorem fixR_list (K : PySem.W.Frag) (a : Addr) (xs : List V) : FixR (fun H => SqL K H a xs) (Itl K a) xs.length fun i => xs.getD i .non :=
  ⟨fun i H r h => ⟨xs, xs[i], r, List.getElem?_eq_getElem h⟩, fun H r => ⟨xs, r, Nat.le_refl _⟩, fun i H x H' r h y => by
    obtain ⟨e, k⟩ := y
    have := k xs r
    refine ⟨?_, e⟩
    rw [List.getD_eq_getElem?_getD, this]
    rfl⟩
theorem fixR_tup (K : PySem.W.Frag) (a : Addr) (xs : List V) : FixR (fun H => SqT K H a xs) (Itt K a) xs.length fun i => xs.getD i .non :=
  ⟨fun i H r h => ⟨xs, xs[i], r, List.getElem?_eq_getElem h⟩, fun H r => ⟨xs, r, Nat.le_refl _⟩, fun i H x H' r h y => by
    obtain ⟨e, k⟩ := y
    have := k xs r
    refine ⟨?_, e⟩
    rw [List.getD_eq_getElem?_getD, this]
    rfl⟩
section
variable {Rk : Hp → Prop} {J : It} {n : Nat} {v : Nat → V} {g : TG} {tt : TT} {te : TE} {vs : List Nat} {σ : L2.St} {H1 : Hp} {Dl : Addr} {Qd : Hp → Prop}
theorem lc_fixR (F : FixR Rk J n v) (Pv : Nat → Hp → Prop) (kR : ∀ i H, Pv i H → Rk H) (h0 : Pv 0 (upd H1 Dl (.lst [])))
    (hs : ∀ i H, i < n → Pv i H → g (v i) (wipe σ vs) H fun σ2 H2 => wipe σ2 vs = wipe σ vs ∧ tt σ2 H2 fun b H3 =>
      if b = true then te σ2 H3 fun y H4 => ∃ acc, H4 Dl = some (.lst acc) ∧ acc.length < sizeLine ∧ Pv (i + 1) (upd H4 Dl (.lst (acc ++ [y]))) else Pv (i + 1) H3) (hd : ∀ H, Pv n H → Qd H) :
    ∃ W : Nat → Nat → Hp → Prop, (∃ m, W 0 m (upd H1 Dl (.lst []))) ∧ ∀ i m H, W i m H →
      (J.stop i H ∧ Qd H) ∨ (J.go i H ∧ ∃ Nx : Hp → Prop, (∀ H', Nx H' → ∃ m', m' < m ∧ W (i + 1) m' H') ∧ ∀ x H', J.yld i H x H' → g x (wipe σ vs) H' fun σ2 H2 => wipe σ2 vs = wipe σ vs ∧ tt σ2 H2 fun b H3 =>
        if b = true then te σ2 H3 fun y H4 => ∃ acc, H4 Dl = some (.lst acc) ∧ acc.length < sizeLine ∧ Nx (upd H4 Dl (.lst (acc ++ [y]))) else Nx H3) := by
  refine ⟨fun i m H => m = n - i ∧ i ≤ n ∧ Pv i H, ⟨n, by simp, Nat.zero_le _, h0⟩, ?_⟩
  rintro i m H ⟨rfl, hi, p⟩
  by_cases hlt : i < n
  · refine .inr ⟨F.go i H (kR _ _ p) hlt, Pv (i + 1), fun H' p' => ⟨n - (i + 1), by omega, rfl, hlt, p'⟩, fun x H' y => ?_⟩
    obtain ⟨rfl, rfl⟩ := F.yld i H x H' (kR _ _ p) hlt y
    exact hs i _ hlt p
  · have e : i = n := by omega
    subst e
    exact .inl ⟨F.stop H (kR _ _ p), hd H p⟩
theorem for_fixR {tb : TS} {D : Ends} {σ : L2.St} {H : Hp} (F : FixR Rk J n v) (Pv : Nat → L2.St → Hp → Prop) (kR : ∀ i σ H, Pv i σ H → Rk H) (h0 : Pv 0 σ H)
    (hs : ∀ i σ H, i < n → Pv i σ H → g (v i) σ H fun σ2 H2 => tb { D with nx := Pv (i + 1), ct := Pv (i + 1), bk := D.nx } σ2 H2) (hd : ∀ σ H, Pv n σ H → D.nx σ H) :
    ∃ W : Nat → Nat → L2.St → Hp → Prop, (∃ m, W 0 m σ H) ∧ ∀ i m σ H, W i m σ H →
      (J.stop i H ∧ D.nx σ H) ∨ (J.go i H ∧ ∃ N : L2.St → Hp → Prop, (∀ σ' H', N σ' H' → ∃ m', m' < m ∧ W (i + 1) m' σ' H') ∧ ∀ x H', J.yld i H x H' → g x σ H' fun σ2 H2 => tb { D with nx := N, ct := N, bk := D.nx } σ2 H2) := by
  refine ⟨fun i m σ H => m = n - i ∧ i ≤ n ∧ Pv i σ H, ⟨n, by simp, Nat.zero_le _, h0⟩, ?_⟩
  rintro i m σ H ⟨rfl, hi, p⟩
  by_cases hlt : i < n
  · refine .inr ⟨F.go i H (kR _ _ _ p) hlt, Pv (i + 1), fun σ' H' p' => ⟨n - (i + 1), by omega, rfl, hlt, p'⟩, fun x H' y => ?_⟩
    obtain ⟨rfl, rfl⟩ := F.yld i H x H' (kR _ _ _ p) hlt y
    exact hs i σ _ hlt p
  · have e : i = n := by omega
    subst e
    exact .inl ⟨F.stop H (kR _ _ _ p), hd σ H p⟩
/-- a filter over items that the heap keeps -/
theorem lc_filterR {i : Nat} (F : FixR Rk J n v) (f : Nat → Bool) (hn : n ≤ 16000000) (hD : H1 Dl = none) (kR : ∀ H, Same H1 H → Rk H) (hw : ∀ x, wipe ((wipe σ [i]).set i (some x)) [i] = wipe σ [i]) (hi : ∀ x, ((wipe σ [i]).set i (some x))[i]? = some (some x))
    (ht : ∀ j H R, j < n → Same H1 H → R (f j) H → tt ((wipe σ [i]).set i (some (v j))) H R) (hd : ∀ H, Same H1 H → H Dl = some (.lst (((List.range n).filter f).map v)) → Qd H) :
    ∃ W : Nat → Nat → Hp → Prop, (∃ m, W 0 m (upd H1 Dl (.lst []))) ∧ ∀ k m H, W k m H →
      (J.stop k H ∧ Qd H) ∨ (J.go k H ∧ ∃ Nx : Hp → Prop, (∀ H', Nx H' → ∃ m', m' < m ∧ W (k + 1) m' H') ∧ ∀ x H', J.yld k H x H' → gName i x (wipe σ [i]) H' fun σ2 H2 => wipe σ2 [i] = wipe σ [i] ∧ tt σ2 H2 fun b H3 =>
        if b = true then tVar i σ2 H3 fun y H4 => ∃ acc, H4 Dl = some (.lst acc) ∧ acc.length < sizeLine ∧ Nx (upd H4 Dl (.lst (acc ++ [y]))) else Nx H3) := by
  refine lc_fixR F (fun k H => Same H1 H ∧ H Dl = some (.lst (((List.range k).filter f).map v))) (fun _ H p => kR H p.1) ⟨fun b o e => up_new hD e, upd_same⟩ (fun k H hk ⟨s, e⟩ => ⟨hw _, ht k H _ hk s ?_⟩) (fun H ⟨s, e⟩ => hd H s e)
  cases hf : f k with
  | false =>
    refine iteF ⟨s, ?_⟩
    rw [e, List.range_succ, List.filter_append, List.filter_cons, if_neg (by rw [hf]; exact Bool.false_ne_true)]
    simp
  | true =>
    refine iteT ⟨v k, hi _, _, e, ?_, fun b o hb => ?_, ?_⟩
    · have h1 : (((List.range k).filter f).map v).length ≤ k := by
        rw [List.length_map]
        exact Nat.le_trans (List.length_filter_le _ _) (by simp)
      rw [sizeLine_eq]
      omega
    · rw [upd_ne (ne_of_none hb hD)]
      exact s b o hb
    · rw [upd_same, List.range_succ, List.filter_append, List.filter_cons, if_pos hf]
      simp
/-- over items each in a new tuple -/
theorem for_itn {ys : Nat → List V} {tb : TS} {D : Ends} {σ : L2.St} {H : Hp} (Pv : Nat → L2.St → Hp → Prop) (h0 : Pv 0 σ H)
    (hs : ∀ i σ H T, i < n → Pv i σ H → H T = none → g (.ref T) σ (upd H T (.tup (ys i))) fun σ2 H2 => tb { D with nx := Pv (i + 1), ct := Pv (i + 1), bk := D.nx } σ2 H2) (hd : ∀ σ H, Pv n σ H → D.nx σ H) :
    ∃ W : Nat → Nat → L2.St → Hp → Prop, (∃ m, W 0 m σ H) ∧ ∀ i m σ H, W i m σ H →
      ((Itn n ys).stop i H ∧ D.nx σ H) ∨ ((Itn n ys).go i H ∧ ∃ N : L2.St → Hp → Prop, (∀ σ' H', N σ' H' → ∃ m', m' < m ∧ W (i + 1) m' σ' H') ∧ ∀ x H', (Itn n ys).yld i H x H' → g x σ H' fun σ2 H2 => tb { D with nx := N, ct := N, bk := D.nx } σ2 H2) := by
  refine ⟨fun i m σ H => m = n - i ∧ i ≤ n ∧ Pv i σ H, ⟨n, by simp, Nat.zero_le _, h0⟩, ?_⟩
  rintro i m σ H ⟨rfl, hi, p⟩
  by_cases hlt : i < n
  · refine .inr ⟨hlt, Pv (i + 1), fun σ' H' p' => ⟨n - (i + 1), by omega, rfl, hlt, p'⟩, fun x H' y => ?_⟩
    obtain ⟨T, rfl, hT, rfl⟩ := y
    exact hs i σ _ T hlt p hT
  · have e : i = n := by omega
    exact .inl ⟨e, hd σ H (e ▸ p)⟩
end
section
variable {K : PySem.W.Frag} {σ : L2.St} {H : Hp} {D : Ends} {Q : VK} {v x y z : V} {i j l : Nat} {ta te : TE} {ts : TA} {c : TT} {N : L2.St → Hp → Prop}
theorem w_gsub {to ti : TE} {t : TSet} (h : to σ H fun o H1 => ti σ H1 fun i H2 => t o i v H2 fun H3 => N σ H3) : gSub to ti t v σ H N := h
theorem w_setL {p : Addr} {xs : List V} {k : Int} {j : Nat} {N : Hp → Prop} (hp : H p = some (.lst xs)) (hk : ixN xs.length k = some j) (h : N (upd H p (.lst (xs.set j v)))) : rSetL (.ref p) (.int k) v H N := ⟨p, xs, k, j, rfl, rfl, hp, hk, h⟩
theorem w_par (h : ts σ H fun vs H1 => ∃ v w, vs = [v, w] ∧ D.nx ((σ.set i (some v)).set j (some w)) H1) : tPar i j ts D σ H := h
theorem w_par3 (h : ts σ H fun vs H1 => ∃ u v w, vs = [u, v, w] ∧ D.nx (((σ.set i (some u)).set j (some v)).set l (some w)) H1) : tPar3 i j l ts D σ H := h
theorem w_pr2 {F : V → V → Prop} {a b : V} (h : F a b) : ∃ v w, [a, b] = [v, w] ∧ F v w := ⟨a, b, rfl, h⟩
theorem w_pr3 {F : V → V → V → Prop} {a b d : V} (h : F a b d) : ∃ u v w, [a, b, d] = [u, v, w] ∧ F u v w := ⟨a, b, d, rfl, h⟩
theorem w_gT2 {p : Addr} {u w : V} (hp : H p = some (.tup [u, w])) (h : N ((σ.set i (some u)).set j (some w)) H) : gTup K 2 (gCons (gName i) (gCons (gName j) gNil)) (.ref p) σ H N := ⟨p, _, rfl, SqT.of hp, rfl, u, [w], rfl, w, [], rfl, rfl, h⟩
theorem w_gT3 {p : Addr} {u w z : V} (hp : H p = some (.tup [u, w, z])) (h : N (((σ.set i (some u)).set j (some w)).set l (some z)) H) : gTup K 3 (gCons (gName i) (gCons (gName j) (gCons (gName l) gNil))) (.ref p) σ H N := ⟨p, _, rfl, SqT.of hp, rfl, u, [w, z], rfl, w, [z], rfl, z, [], rfl, rfl, h⟩
theorem w_then {k : V → Hp → VK → Prop} (h : ta σ H fun x H1 => k x H1 Q) : tThen ta k σ H Q := h
theorem w_for {wi : TI} {g : TG} {tb : TS} (h : wi σ H fun J H1 => ∃ W : Nat → Nat → L2.St → Hp → Prop, (∃ m, W 0 m σ H1) ∧ ∀ i m σ H, W i m σ H →
  (J.stop i H ∧ D.nx σ H) ∨ (J.go i H ∧ ∃ N : L2.St → Hp → Prop, (∀ σ' H', N σ' H' → ∃ m', m' < m ∧ W (i + 1) m' σ' H') ∧ ∀ x H', J.yld i H x H' → g x σ H' fun σ2 H2 => tb { D with nx := N, ct := N, bk := D.nx } σ2 H2)) : tFor wi g tb D σ H := h
theorem w_rng1 {R : It → Hp → Prop} (h : ts σ H fun vs H1 => ∃ j : Int, vs = [.int j] ∧ -(2 ^ 62) ≤ j ∧ j < 2 ^ 62 ∧ R (Itr 0 j.toNat) H1) : iRng1 ts σ H R := h
theorem w_enumS {R : It → Hp → Prop} (h : ts σ H fun vs H1 => ∃ x, vs = [.str x] ∧ R (Itn x.cps.size fun i => [.int (i : Nat), .str (sign (x.cps.getD i 0))]) H1) : iEnumS ts σ H R := h
theorem w_iList {R : It → Hp → Prop} (h : ta σ H fun x H1 => ∃ a, x = .ref a ∧ (∃ xs, SqL K H1 a xs) ∧ R (Itl K a) H1) : iList K ta σ H R := h
theorem w_iTup {R : It → Hp → Prop} (h : ta σ H fun x H1 => ∃ a, x = .ref a ∧ (∃ xs, SqT K H1 a xs) ∧ R (Itt K a) H1) : iTup K ta σ H R := h
theorem w_iStr {R : It → Hp → Prop} (h : ta σ H fun v H1 => ∃ x, v = .str x ∧ R (Its x) H1) : iStr ta σ H R := h
theorem w_inT {neg : Bool} {p : Addr} {xs : List V} (s : SqT K H p xs) (f : flatV x = true) (fs : xs.all flatV = true) (h : Q (.bl (if neg then !inV x xs else inV x xs)) H) : rIn K neg x (.ref p) H Q := ⟨p, xs, rfl, .inr s, f, fs, h⟩
theorem w_inL {neg : Bool} {p : Addr} {xs : List V} (s : SqL K H p xs) (f : flatV x = true) (fs : xs.all flatV = true) (h : Q (.bl (if neg then !inV x xs else inV x xs)) H) : rIn K neg x (.ref p) H Q := ⟨p, xs, rfl, .inl s, f, fs, h⟩
theorem w_make {C : Addr} {sp : Sp} {dvs : List V} {E : XK} (h : ts σ H fun vs H1 => ∀ x dx, H1 x = none → H1 dx = none → dx ≠ x → sp (.ref x :: (vs ++ dvs)) (upd (upd H1 dx (.own x)) x (.ins C dx [])) (fun v H2 => v = .non ∧ Q (.ref x) H2) E) : tMake C sp dvs E ts σ H Q := h
theorem w_appL {p : Addr} {xs : List V} (hp : H p = some (.lst xs)) (hl : xs.length < sizeLine) (h : Q .non (upd H p (.lst (xs ++ [v])))) : rAppend (.ref p) [v] H Q := ⟨p, xs, v, rfl, rfl, hp, hl, h⟩
end
end LX

set_option Elab.async false
set_option linter.all false
set_option maxRecDepth 100000
set_option maxHeartbeats 4000000
namespace LX
open PySem PySem.Spec PyProof.Rows L2
open AutoSeq1 (wpAny_loadPart')

/-! ### enumerate(tuple) -/
def itT (l : Addr) : Obj := { cls := .type "tuple_iterator", data := .fields #[.ref l, .int 0 0] }
def enT (i : Addr) : Obj := { cls := .type "enumerate", data := .fields #[.none, .bool false, .ref i, rawInt 0, .none, .none] }
theorem enumT_new (l : Addr) (xs : Array Value) (n : Nat) (dd : Option Addr) (sl : Array (Option Value)) :
    Meets (Builtin.«enumerate.__new__» ⟨[.type "enumerate", .ref l], []⟩) fun _ R s =>
      s.heap.get? l = some { cls := .type "tuple", dict := dd, data := .seq xs n, slots := sl } ∧ R (.ok (.ret (.ref (s.heap.push (itT l)).objs.size))) { s with heap := (s.heap.push (itT l)).push (enT s.heap.objs.size) } :=
  .of_wp fun prog w A R s h => by
    obtain ⟨hp, g, d, tk, os⟩ := s
    obtain ⟨hl, q⟩ := h
    have sb := sub_enumerate
    have hT : Heap.IsTuple (Shared.heap ⟨hp, g, d, tk, os⟩) l xs := ⟨_, hl, rfl, n, rfl⟩
    wp_walk using wpAny_loadPart' hl, wpAny_pyIter_tuple hT
    refine wpAny_stack_any fun st => wpAny_pure ?_
    split
    · rename_i c _ _ _ _ _
      cases (c == Value.type "enumerate") <;>
      · wp_walk using wpAny_loadPart' hl, wpAny_pyIter_tuple hT
        exact ⟨_, rfl, q⟩
    · wp_walk using wpAny_loadPart' hl, wpAny_pyIter_tuple hT
      exact ⟨_, rfl, q⟩
theorem call_enumT {prog : Program} {w : World} {A : Around} {E : Value → Shared → Prop} {s : Shared} {l : Addr} {xs : Array Value} {Q : Value → Shared → Prop} (hT : s.heap.IsTuple l xs)
    (h : ∀ h', IsEnum h' (s.heap.objs.size + 1) s.heap.objs.size 0 .none → h'.IsTupleIter s.heap.objs.size l 0 → (∀ b o, s.heap.get? b = some o → h'.get? b = some o) → Q (.ref (s.heap.objs.size + 1)) { s with heap := h' }) :
    wpAny (model prog w) A (call (.type "enumerate") [.ref l]) Q E s := by
  obtain ⟨⟨c, dd, dt, sl⟩, hl, hc, n, hd⟩ := hT
  obtain rfl : c = .type "tuple" := hc
  obtain rfl : dt = .seq xs n := hd
  refine callType_new F.called_enumerate (by decide) (F.typeCall_enumerate_1 _) (F.newCall_enumerate_1 _) (fun obj => F.args_object_init_2 obj _) F.entry_enumerate_new (enumT_new l xs n dd sl) ⟨hl, ?_⟩
  have hz : (s.heap.push (itT l)).objs.size = s.heap.objs.size + 1 := Heap.size_push ..
  show _ ∧ _
  rw [hz]
  have he := Heap.get?_push_size (s.heap.push (itT l)) (o := enT s.heap.objs.size) rfl
  rw [hz] at he
  exact ⟨⟨_, he, rfl⟩, h _ he ⟨_, Heap.get?_push_of_some _ (Heap.get?_push_size _ rfl), rfl, rfl⟩ fun b o x => Heap.get?_push_of_some _ (Heap.get?_push_of_some _ x)⟩
/-- the items of the tuple at a with their places, each pair new -/
def ItnT (K : PySem.W.Frag) (a : Addr) (xs : List V) : It := ⟨fun i H => i < xs.length ∧ SqT K H a xs, fun i H v H' => ∃ T, v = .ref T ∧ H T = none ∧ H' = upd H T (.tup [.int (i : Nat), xs.getD i .non]), fun i H => i = xs.length ∧ SqT K H a xs⟩
def EnT (e it a : Addr) (i : Nat) (h : Heap) : Prop := (∃ old, IsEnum h e it ((0 : Int) + (i : Int)) old) ∧ h.IsTupleIter it a i
theorem turn_enT {P : Program} {w : World} {K : PySem.W.Frag} {elts : List Expr} {kk : Nat} {tpos : Pos} {e it a : Addr} {xs : List V} (n1 : e ≠ it) (n2 : a ≠ e) (n3 : a ≠ it) : Turn P w K (.Tuple elts kk tpos) (ItnT K a xs) [e, it] e (EnT e it a) where
  mem := by simp
  obj := fun i h st b hb => by
    obtain ⟨⟨old, e1⟩, o, e2, c2, d2⟩ := st
    have hb' : b = e ∨ b = it := by simpa using hb
    rcases hb' with z | z
    · rw [z]; exact ⟨_, e1, fun v q => nomatch q⟩
    · rw [z]; exact ⟨o, e2, fun v q => by rw [d2] at q; cases q⟩
  keep := fun i h h' st k => by
    obtain ⟨⟨old, e1⟩, o, e2, c2, d2⟩ := st
    exact ⟨⟨old, k e (by simp) _ e1⟩, o, k it (by simp) _ e2, c2, d2⟩
  item := by
    intro X hP hw hK hc i pins s σ H E I hf st hg
    subst hP hw hK
    obtain ⟨hlt, hq⟩ := hg
    obtain ⟨its, rv, tup, hz⟩ := I.tuple hq
    have hl := rv.length
    have G := GoesN.enumFrom (prog := X.prog) (w := X.w) (A := X.A) (elts := elts) (x1 := kk) (pos := tpos) 0 (Draws.tuple (prog := X.prog) (w := X.w) (A := X.A.in1) (I.ok.hd hc) it a n3 its.toArray) e n1 (by simp [n1, n2.symm]) (by simp)
    refine G.goes i s _ _ (by simpa [← hl] using hlt) ⟨st.1, st.2, tup⟩ fun v h' tk hY st' hk htk => ?_
    obtain ⟨T, t, x, rfl, hT, hx, tp⟩ := hY
    have hx' : its[i]? = some x := by simpa using hx
    obtain ⟨u, hu, ru⟩ := rv.get (List.getElem?_eq_getElem hlt)
    rw [hx'] at hu
    have rx : RelV (xs.getD i .non) x := by
      rw [List.getD_eq_getElem?_getD, List.getElem?_eq_getElem hlt, Option.some.inj hu]
      exact ru
    have ri : RelV (.int (i : Nat)) (.int ((0 : Int) + (i : Int)) t) := by
      have z : (0 : Int) + (i : Int) = (i : Int) := by omega
      rw [z]
      exact ⟨t, rfl⟩
    have J := I.turnedNew (h' := h') (t' := tk) (ch := [e, it]) (T := T) (ob := .tup [.int (i : Nat), xs.getD i .non]) hk (fun b hb => hf b hb) hT ⟨by show 2 ≤ sizeLine; decide, _, .cons ri (.cons rx .nil), tp⟩
    refine ⟨.ref T, _, J, rfl, ⟨T, rfl, I.hok.fresh hT, rfl⟩, ⟨st'.1, st'.2.1⟩, fun b hb => ?_⟩
    have lt : b < s.heap.objs.size := by
      obtain ⟨⟨old, e1⟩, o, e2, c2, d2⟩ := st
      have hb' : b = e ∨ b = it := by simpa using hb
      rcases hb' with z | z
      · rw [z]; exact Heap.lt_size e1
      · rw [z]; exact Heap.lt_size e2
    rw [upd_ne (Nat.ne_of_lt (Nat.lt_of_lt_of_le lt hT))]
    exact (hf b hb).1
  done := by
    intro X hP hw hK hc i pins s σ H E I hf st hg
    subst hP hw hK
    obtain ⟨rfl, hq⟩ := hg
    obtain ⟨its, rv, tup, hz⟩ := I.tuple hq
    have hl := rv.length
    have G := GoesN.enumFrom (prog := X.prog) (w := X.w) (A := X.A) (elts := elts) (x1 := kk) (pos := tpos) 0 (Draws.tuple (prog := X.prog) (w := X.w) (A := X.A.in1) (I.ok.hd hc) it a n3 its.toArray) e n1 (by simp [n1, n2.symm]) (by simp)
    refine G.stops s _ _ (by have z : its.toArray.size = xs.length := by simp [hl]
                             rw [z]; exact ⟨st.1, st.2, tup⟩) fun h' tk hk htk => ?_
    refine I.step (g' := s.gens) (t' := tk) (d' := s.drawn) (ch := [e, it]) (fun b hb => ?_) (fun b o _ _ hb e _ => hk b o hb e) (fun b o _ _ hb e _ => ⟨o.slots, hk b o hb e⟩) (fun _ _ _ _ z => z) (fun b o hb e => ⟨o, hk b o hb e⟩) (fun _ _ z => z) (fun _ _ _ z => z)
      (fun b ps z => ⟨#[], by rw [z]; simp⟩) (fun m hm => ?_) (fun b o e => ?_) I.bare
    · obtain ⟨f0, f1, f2, f3, f4, f5⟩ := hf b hb
      exact ⟨f3, f1, f4, f5⟩
    · obtain ⟨o, es, ep, ho, r⟩ := hm
      exact ⟨o, es, ep, hk _ o (fun z => (hf _ z).2.1 rfl) ho, r⟩
    · refine (I.hok b o e).stay (fun c v hc z => hk c v (fun hm => ?_) z) (fun _ z => z) fun _ _ z => z
      have fr := (hf c hm).1
      rcases hc with hc | hc
      · rw [hc, e] at fr
        cases fr
      · rw [hc] at fr
        cases fr
  self := fun A i s Q E st h => let ⟨⟨_, he⟩, _⟩ := st; wpAny_pyIter_enum he h
def iEnumT (K : PySem.W.Frag) (ta : TA) : TI := fun σ H R => ta σ H fun vs H1 => ∃ a xs, vs = [.ref a] ∧ SqT K H1 a xs ∧ R (ItnT K a xs) H1
theorem pi_enumT {X : Cx} {e : Expr} {ta : TA} {p pos tpos : Pos} {elts : List Expr} {kk : Nat} (hg : Gl X "enumerate") (hm : X.mg "enumerate" = none) (ha : PA X [e] ta) (hs : starEach [e] X.env = [(false, eval e X.env)] := by rfl) :
    PI X (.Tuple elts kk tpos) (.Call (.Name "enumerate" p) [e] [] pos) (iEnumT X.K ta) := by
  refine ⟨fun pins s σ H R I h => Call_ (ld_blt I hg hm boot_enumerate (PyProof.Rows.callWith_type1 (thn (ha.run pos pins s σ H _ I h) fun us s1 hu => ?_) hs rfl))⟩
  obtain ⟨vs, H1, I1, r1, a, xs, rfl, hq, q⟩ := hu
  cases r1 with
  | cons r rr =>
    cases rr
    cases r
    obtain ⟨its, rv, tup, hz⟩ := I1.tuple hq
    have alt : a < s1.heap.objs.size := let ⟨o, ho, _⟩ := tup; Heap.lt_size ho
    refine call_enumT tup fun h' he hit hk => wpAny_pyIter_enum he ?_
    have I2 : Inv X pins σ H1 { s1 with heap := h' } := I1.kept (t' := s1.toks) hk
    refine ⟨s1.heap.objs.size + 1, [s1.heap.objs.size + 1, s1.heap.objs.size], _, _, H1, rfl, I2, turn_enT (Nat.succ_ne_self _) (Nat.ne_of_lt (Nat.lt_succ_of_lt alt)) (Nat.ne_of_lt alt), ⟨⟨.none, by simpa using he⟩, hit⟩, fun b hb => ?_, q⟩
    have hb' : b = s1.heap.objs.size + 1 ∨ b = s1.heap.objs.size := by simpa using hb
    have hle : s1.heap.objs.size ≤ b := by
      rcases hb' with z | z
      · rw [z]; exact Nat.le_succ _
      · rw [z]; exact Nat.le_refl _
    exact I1.fpOk hle (I1.hok.fresh hle)
end LX

set_option Elab.async false
set_option linter.all false
set_option maxRecDepth 100000
set_option maxHeartbeats 6400000
namespace LX
open PySem PySem.Spec PyProof.Rows L2

/-! ### set(list of whole numbers) -/
def set0 (w : World) : Obj := { cls := .type "set", dict := none, data := .set #[] 0 (.fresh 0 0 (!w.params.followText "set-order")) }
/-- what the making of the set leaves: only new things, the set at S with at most as many members -/
def SetMade (w : World) (ns : List Int) (s s2 : Shared) : Prop := ∃ h' tk c, s2 = { s with heap := h', toks := tk } ∧ SetR w h' s.heap.objs.size (fun j => decide (j ∈ ns)) c ∧ c ≤ ns.length ∧ ∀ b o, s.heap.get? b = some o → h'.get? b = some o
section
variable {P : Program} {w : World} {A : Around} {E : Value → Shared → Prop} {s : Shared}
theorem init_setL {l : Addr} {items : Array Value} {ns : List Int} {B : Around} (hh : B.in1.handled = none) (hl : s.heap.IsList l items) (hit : IntsAre items.toList ns) (hb : ns.length + 1 < scanBound) {R : Result → Shared → Prop}
    (hR : ∀ s2, SetMade w ns s s2 → R (.ok (.ret .none)) s2) :
    codeAny (model P w) B (.call (.builtin "set.__init__") ⟨[.ref s.heap.objs.size, .ref l], []⟩) R { s with heap := s.heap.push (set0 w) } := by
  have hS : (s.heap.push (set0 w)).get? s.heap.objs.size = some (set0 w) := Heap.get?_push_size _ rfl
  have hT : Shared.TypeIs { s with heap := s.heap.push (set0 w) } (.ref s.heap.objs.size) "set" := ⟨_, hS, rfl⟩
  refine codeAny_call_builtin F.called_set.init.plain F.entry_set_init (check_set_init_1 hT ?_)
  obtain ⟨⟨oc, od, oda, osl⟩, hol, hcl, nl, hdl⟩ := id hl
  obtain rfl : oc = .type "list" := hcl
  obtain rfl : oda = .seq items nl := hdl
  have ol : (s.heap.push (set0 w)).get? l = some { cls := .type "list", dict := od, data := .seq items nl, slots := osl } := Heap.get?_push_of_some _ hol
  have f1 := F.sub_list_set
  have f2 := F.sub_list_frozenset
  have f3 : (Value.type "list" == Value.type "dict") = false := by decide
  have hl1 : (s.heap.push (set0 w)).IsList l items := ⟨_, ol, rfl, nl, rfl⟩
  have lt : l < s.heap.objs.size := Heap.lt_size hol
  have hz : (s.heap.push (set0 w)).objs.size = s.heap.objs.size + 1 := Heap.size_push ..
  have n1 : l ≠ (s.heap.push (set0 w)).objs.size := by rw [hz]; exact Nat.ne_of_lt (Nat.lt_succ_of_lt lt)
  have len : items.size = ns.length := by
    have q := IntsAre.length hit
    rwa [Array.length_toList] at q
  have vals : ∀ (i : Nat) (v : Value), items[i]? = some v → ∃ k t, ns[i]? = some k ∧ v = .int k t := fun i v hv => by
    have hi : i < ns.length := by rw [← len]; exact (Array.getElem?_eq_some_iff.mp hv).1
    obtain ⟨t, e⟩ := PyProof.Rows.IntsAre.int_at hit i v (by rw [Array.getElem?_toList]; exact hv)
    refine ⟨ns[i], t, List.getElem?_eq_getElem hi, ?_⟩
    rw [e, List.getD_eq_getElem?_getD, List.getElem?_eq_getElem hi] <;> rfl
  unfold Builtin.«set.__init__» noKeywords Builtin.Frozenset.updateFrom
  generalize hPI : pyIter = PI
  wp_walk
  subst hPI
  refine wpAny_pyIter_list hl1 (wpAny_bind (wpAny_runValue ?_))
  have nf : s.heap.objs.size ∉ [(s.heap.push (set0 w)).objs.size, l] := by
    rw [hz]
    simp only [List.mem_cons, List.not_mem_nil, or_false, not_or]
    exact ⟨Nat.ne_of_lt (Nat.lt_succ_self _), Nat.ne_of_gt lt⟩
  refine set_update_ints (Walks.list (by simpa using hh) _ l n1 items).toS s.heap.objs.size nf ns len hb vals (items.size - 0) 0 _ (by omega) (Nat.zero_le _) ⟨⟨_, Heap.get?_push_size _ rfl, rfl, rfl⟩, hl1.push _⟩
    ⟨0, Nat.le_refl 0, setR_new_at (Heap.get?_push_of_some _ hS)⟩ ?_
  intro s' c hm hc hS'
  obtain ⟨h', g2, d', tk', os'⟩ := s'
  obtain rfl : g2 = s.gens := hm.gens
  obtain rfl : d' = s.drawn := hm.drawn
  obtain rfl : os' = s.os := hm.os
  show wpAny _ _ _ _ _ _
  refine wpAny_pure ?_
  show wpAny _ _ (ret Value.none) _ _ _
  refine wpAny_pure (hR _ ⟨h', tk', c, rfl, hS', by rw [← len]; exact hc, fun b o e => ?_⟩)
  have b0 : b < s.heap.objs.size := Heap.lt_size e
  refine hm.heap b o ?_ (Heap.get?_push_of_some _ (Heap.get?_push_of_some _ e))
  rw [hz]
  simp only [List.mem_cons, List.not_mem_nil, or_false, not_or]
  exact ⟨Nat.ne_of_lt b0, Nat.ne_of_lt (Nat.lt_succ_of_lt b0)⟩
theorem call_setL {l : Addr} {items : Array Value} {ns : List Int} {Q : Value → Shared → Prop} (hh : A.handled = none) (hl : s.heap.IsList l items) (hit : IntsAre items.toList ns) (hb : ns.length + 1 < scanBound)
    (h : ∀ s2, SetMade w ns s s2 → Q (.ref s.heap.objs.size) s2) : wpAny (model P w) A (call (.type "set") [.ref l]) Q E s := by
  obtain ⟨c, tl, hmro⟩ := F.called_set.mro
  have a1 := F.called_set.made
  have a2 := F.called_set.sub
  have a3 := F.called_set.notType
  have a4 := F.called_set.canCreate
  have a5 := F.typeCall_set_1 (.ref l)
  refine wpAny_call (codeAny_of_tree ?_)
  show wpAny _ _ (callAny (.type "set") _) _ _ _
  refine wpAny_pure ⟨Code.quiet_builtin _ (by decide +kernel), codeAny_builtin F.entry_type_call ?_⟩
  rw [Around.under_plain (weight_type_call_type "set" [.ref l] []) rfl]
  repeat (any_goals (first | assumption | wp_step))
  refine codeAny_mono (code_set_led1 (.ref l) (E := E) (Q₁ := fun obj s1 => obj = .ref s.heap.objs.size ∧ s1 = { s with heap := s.heap.push (set0 w) }) ⟨rfl, rfl⟩) fun r s1 hr => ?_
  cases r with
  | error e => exact hr
  | ok fl =>
    cases fl with
    | ret obj =>
      obtain ⟨rfl, rfl⟩ := hr
      have hT : Shared.TypeIs { s with heap := s.heap.push (set0 w) } (.ref s.heap.objs.size) "set" := ⟨_, Heap.get?_push_size _ rfl, rfl⟩
      have a6 := F.called_set.init.lookup
      have a7 := F.called_set.init.bind (.ref s.heap.objs.size)
      repeat (any_goals (first | assumption | wp_step))
      refine codeAny_mono (init_setL (R := wants (fun r s2 => r = .none ∧ SetMade w ns s s2) E) (by simpa using hh) hl hit hb fun s2 m => ⟨rfl, m⟩) fun r2 s2 hr2 => ?_
      cases r2 with
      | error e => exact hr2
      | ok fl2 =>
        cases fl2 with
        | ret r =>
          obtain ⟨rfl, m⟩ := hr2
          repeat (any_goals (first | assumption | wp_step))
          exact h _ m
        | _ => exact hr2.elim
    | _ => exact hr.elim
end
end LX

set_option Elab.async false
set_option linter.all false
set_option maxRecDepth 100000
set_option maxHeartbeats 6400000
namespace LX
open PySem PySem.Spec PyProof.Rows L2
section
variable {P : Program} {w : World} {A : Around} {E : Value → Shared → Prop} {s : Shared}
/-- a sorted list of the members of S, new at p; nothing else is changed -/
structure Sorted1 (s : Shared) (S : Int → Bool) (n : Nat) (s' : Shared) (p : Addr) (out : Array Value) (c : Nat) (ns : List Int) : Prop where
  old : ∀ b u, s.heap.get? b = some u → s'.heap.get? b = some u
  gens : s'.gens = s.gens
  os : s'.os = s.os
  new : s.heap.objs.size ≤ p
  obj : s'.heap.get? p = some (seqObj "list" out c)
  are : IntsAre out.toList ns
  up : ns.Pairwise (· < ·)
  mem : ∀ k, k ∈ ns ↔ S k = true
  len : ns.length = n
/-- sorted(a set of whole numbers), any number of them -/
theorem sorted_setN {a : Addr} {S : Int → Bool} {n : Nat} {Q : Value → Shared → Prop} (R : SetR w s.heap a S n) (hh : A.handled = none)
    (hQ : ∀ s' p out c ns, Sorted1 s S n s' p out c ns → Q (.ref p) s') :
    wpAny (model P w) A (call (.builtin "sorted") [.ref a]) Q E s := by
  obtain ⟨o, es, ep, t, ho, hex, hd, g, nd, hm, hb, hf, hn, hr, hl⟩ := R
  have sz : n < scanBound := by rw [← hn]; exact hb
  refine Calls.call_function_entry kind_sorted plain_sorted entry_sorted (args_sorted1 _) ?_
  unfold Builtin.«sorted»
  refine wpAny_bind (m := checkCount "sorted" 1 1 _) (wpAny_pure (wpAny_bind (collect_set (A := A.in1) hh ⟨o, ho, hex.1, hd⟩ hf hb hr hl fun s1 vs k1 hz g1 o1 pm => ?_)))
  have lv : vs.length = n := by rw [pm.length_eq, List.length_map, Array.length_toList]; exact hn
  have hline : vs.length ≤ sizeLine := by rw [lv, sizeLine_eq]; have : scanBound = 4096 := rfl; omega
  have iv := ints_of vs fun v hv => by
    obtain ⟨e, he, q⟩ := List.mem_map.mp (pm.mem_iff.mp hv)
    obtain ⟨k, tk, h1, _⟩ := g e he
    exact ⟨k, tk, by rw [← q]; exact h1⟩
  have pk : (vs.map Builtin.Re.reRawOf).Perm (es.toList.map keyOf) := by
    have q := pm.map Builtin.Re.reRawOf
    rwa [List.map_map] at q
  refine wpAny_bind (wpAny_newList ?_ hline)
  have oL : (s1.heap.push (seqObj "list" vs.toArray 0)).get? s1.heap.objs.size = some (seqObj "list" vs.toArray 0) := Heap.get?_push_size _ rfl
  refine wpAny_bind (wpAny_holding (wpAny_call_entry slot_list_sort ⟨_, oL, rfl⟩ entry_list_sort (SrtO.list_sort_ord SrtO.swo_int oL hline (fun h2 => SrtO.ints_sortable iv h2) fun out h1 h2 => ⟨_, rfl, ?_⟩) (args_list_sort _)))
  obtain ⟨b1, b2, b3⟩ := SrtO.ints_out iv h1 h2
  obtain ⟨c, hc⟩ := sortedHeap_at (vs := vs) (out := out.toArray) oL
  have pn := b2.trans pk
  refine wpAny_pure ⟨_, rfl, hQ _ s1.heap.objs.size out.toArray c _ ⟨fun b u e => ?_, g1, o1, hz, hc, b1, lt_of_le_nodup _ b3 (pn.nodup_iff.mpr nd), fun k => by rw [pn.mem_iff, ← hm k], ?_⟩⟩
  · have q := k1 b u e
    have lt := Heap.lt_size q
    show (sortedHeap (s1.heap.push (seqObj "list" vs.toArray 0)) s1.heap.objs.size vs out.toArray).get? b = some u
    rw [sortedHeap_old (Nat.ne_of_lt lt) (by rw [Heap.size_push]; exact Nat.lt_succ_of_lt lt)]
    exact Heap.get?_push_of_some _ q
  · rw [pn.length_eq, List.length_map, Array.length_toList]
    exact hn
end
section
variable {X : Cx}
def rSetOfL (K : PySem.W.Frag) (w : World) : List V → Hp → VK → Prop := fun vs H Q => ∃ (l : Addr) (ns : List Int), vs = [.ref l] ∧ SqL K H l (ns.map V.int) ∧ ns.length ≤ 4000 ∧
  ∀ a c, H a = none → c ≤ ns.length → Q (.ref a) (upd H a (SetO w a (fun j => decide (j ∈ ns)) c))
theorem cr_setOfL (hc : X.calm = true) : CallR X (.type "set") (rSetOfL X.K X.w) := by
  intro pins s σ H vs us Q I r h
  obtain ⟨l, ns, rfl, hs, hn, q⟩ := h
  obtain ⟨its, rv, hl, hz⟩ := I.list hs
  rw [Vals.ref1 r]
  refine call_setL (I.ok.hd hc) hl.isList (by simpa using rv.ints) (by have : scanBound = 4096 := rfl; omega) fun s2 m => ?_
  obtain ⟨h', tk, c, rfl, hS, hc', hk⟩ := m
  exact ⟨.ref _, upd H s.heap.objs.size (SetO X.w s.heap.objs.size (fun j => decide (j ∈ ns)) c), I.laid (t' := tk) (fun b u e => hk b u e) (Nat.le_refl _) (setO_new hS), rfl, q _ c (I.hok.fresh (Nat.le_refl _)) hc'⟩
def rSortedSetN (w : World) : List V → Hp → VK → Prop := fun vs H Q => ∃ (a : Addr) (S : Int → Bool) (n : Nat), vs = [V.ref a] ∧ H a = some (SetO w a S n) ∧
  ∀ (ns : List Int) (p : Addr), ns.Pairwise (· < ·) → (∀ k : Int, k ∈ ns ↔ S k = true) → ns.length = n → H p = none → Q (.ref p) (upd H p (.lst (ns.map V.int)))
theorem cr_sortedSetN (hc : X.calm = true) : CallR X (.builtin "sorted") (rSortedSetN X.w) := by
  intro pins s σ H vs us Q I r h
  obtain ⟨a, S, n, rfl, ha, q⟩ := h
  have R := setO_get I ha
  have sz : n < 4096 := by
    obtain ⟨o, es, ep, t, ho, hex, hd, g, nd, hm, hb, hf, hn, _⟩ := R
    rw [← hn]
    exact hb
  rw [Vals.ref1 r]
  refine sorted_setN R (I.ok.hd hc) fun s' p out c ns Z => ?_
  obtain ⟨k, g, o, hp, hg, hi, hs, hm, hl⟩ := Z
  have hlen : (ns.map V.int).length ≤ sizeLine := by rw [List.length_map, hl, sizeLine_eq]; omega
  have hn : H p = none := I.hok.fresh hp
  have J : Inv X pins σ (upd H p (.lst (ns.map V.int))) { s with heap := s'.heap, gens := s'.gens, drawn := s'.drawn, toks := s'.toks } :=
    I.call (ch := []) (Un.laid k hp hn) (I.hok.laid k hp ⟨hlen, out.toList, c, vals_of_ints hi, hg⟩) (by rw [g]; exact I.bare) (fun _ z => nomatch z)
  have e : s' = { s with heap := s'.heap, gens := s'.gens, drawn := s'.drawn, toks := s'.toks } := by
    cases s'; cases s; cases o; rfl
  rw [e]
  exact ⟨.ref p, _, J, rfl, q ns p hs hm hl hn⟩
end
end LX

set_option Elab.async false
set_option linter.all false
set_option maxRecDepth 100000
set_option maxHeartbeats 4000000
namespace LX
open PySem PySem.Spec PyProof.Rows L2

/-! ### room where no repr is under way -/
structure RoomG (k : Nat) (A : Around) : Prop where
  room : Room k A
  gs : A.guards = some []
theorem RoomG.deeper {k : Nat} {A : Around} (r : RoomG (k + 1) A) (env : Env) : RoomG k (A.deeper env) := ⟨r.room.deeper env, r.gs⟩
theorem RoomG.mono {j k : Nat} {A : Around} (r : RoomG k A) (h : j ≤ k) : RoomG j A := ⟨r.room.mono h, r.gs⟩
theorem RoomG.ok {k : Nat} : ∀ A, RoomG k A → A.handled = none ∧ A.depth < recursionLimit := fun A r => ⟨r.room.hd, by have := r.room.dp; omega⟩

section
variable {X : Cx} {R : Around → Prop} {f : Addr} {fd : FuncData} {ps : List Str} {sp : Sp} {x : Str} {p pos : Pos} {e : Expr} {es : List Expr} {t : TA}
/-- f(e, ..), the promise under R; nothing is raised -/
theorem pe_callG (F : FnG R X.prog X.w X.K X.mg X.base (L2.CX X.prog X.w) f fd ps sp) (hr : R X.A) (hg : Gl X x) (hm : X.mg x = some (.ref f)) (hk : PySem.W.keepIn X.K (.ref f) = true) (hb : Binds X.K fd ps [])
    (ha : PA X (e :: es) t) (hdb : (x == ("__debug__" : Str)) = false := by decide) (he : starEach (e :: es) X.env = (false, eval e X.env) :: starEach es X.env := by rfl) (hpl : (backTo pos (starEach es X.env)).any (·.1) = false := by rfl) :
    PE X (.Call (.Name x p) (e :: es) [] pos) (tCall sp [] E0 t) := by
  refine ⟨fun pins s σ H Q I h => wpAny_Call_Name_kw (ld_glob I hg hm ?_ hdb)⟩
  refine PySem.W.callWith_K (h₀ := X.base) I.ok.mod.kin hk (thn (ha.run pos pins s σ H _ I h) fun us s1 hu => ?_) he hpl
  obtain ⟨vs, H1, I1, r, q⟩ := hu
  rw [List.append_nil] at q
  exact ⟨I1.kIn, run_fnG (E := fun _ => E0) F hr hb (fun pins H s e s' I z => passL pins σ H s e s' I z) I1 r q⟩
end

/-! ### the law's head by a promise under R -/
section
variable {P : Program} {w : World} {K : PySem.W.Frag} {mg mb : Str → Option Value} {CX : CXT} {R : Around → Prop} {fa a : Addr} {fd : FuncData} {x : Str} {sp : Sp} {s1 : Shared} {vs : List Value} {ns : List Int}
/-- what the law's call has to give -/
def LawRun (s1 : Shared) (r : Result) (s2 : Shared) : Prop := r = .ok (.ret (.bool true)) ∧ OldK s1.heap s2.heap ∧ s2.os = s1.os ∧ AllBare s2.gens
/-- from one abstract heap, which tracks the script at most -/
theorem law_from (KX : K.In s1.heap) (hns : s1.heap.Ns mainGlobals mg) (hb : s1.heap.Ns builtinsNs mb) (hbb : ∀ x : Str, x ≠ "__name__" → mb x = bootBuiltins x) (hlim : s1.heap.NoLimit) (hg : s1.gens = #[])
    (ha : s1.heap.get? a = some { cls := .type "list", data := .seq vs.toArray }) (hr : R callerA) (F : ∀ base : Heap, K.In base → base.Ns mainGlobals mg → FnG R P w K mg base CX fa fd [x] sp)
    (hbind : ∀ (s : Shared) (u : Value), BindsTo s fd ⟨[u], []⟩ [(x, u)]) (hCX : ∀ H e s', CX [] H s1 (fun _ _ _ => False) e s' → False)
    (H : Hp) (hO : Only H) (hsp : sp [.ref a] H (fun v _ => v = .bl true) fun _ _ _ => False) (hok : HOk P w H s1.heap) (hA : ∀ b, H b ≠ none → b = a) (hK : H a ≠ none → K.lookup a = none) :
    codeAny (model P w) callerA (.call (.ref fa) ⟨[.ref a], []⟩) (LawRun s1) s1 := by
  have keep : ∀ {b : Addr} {o : Obj}, s1.heap.get? b = some o → H b = none → (hidT s1.heap H).get? b = some o := fun e n => hidT_get e n
  have dictFree : ∀ {b : Addr} {o : Obj} {es : Array DictEntry} {ep : Nat}, s1.heap.get? b = some o → o.data = .dict es ep → H b = none := fun {b o es ep} e d => by
    cases q : H b with
    | none => rfl
    | some u =>
      obtain rfl := hA b (by rw [q]; simp)
      rw [ha] at e
      cases e
      cases (show Data.seq vs.toArray _ = Data.dict es ep from d)
  have nsH : ∀ {b : Addr} {m : Str → Option Value}, s1.heap.Ns b m → (hidT s1.heap H).Ns b m := fun {b m} z => by
    obtain ⟨o, es, ep, e, d, r⟩ := z
    exact ⟨o, es, ep, keep e (dictFree e d), d, r⟩
  have kH : K.In (hidT s1.heap H) := fun b o e => keep (KX b o e) (by
    cases q : H b with
    | none => rfl
    | some u =>
      obtain rfl := hA b (by rw [q]; simp)
      rw [hK (by rw [q]; simp)] at e
      cases e)
  have lim : (hidT s1.heap H).NoLimit := by
    obtain ⟨mc, h1, h2⟩ := hlim
    exact ⟨mc, nsH h1, h2⟩
  have e0 : Env0 P w K mg (hidT s1.heap H) callerA [] s1 H :=
    ⟨rfl, ⟨kH, nsH hns, ⟨mb, nsH hb, hbb⟩, lim⟩, fun b o e => of_hidT e, Nat.le_of_eq (hidT_size _ _), trivial, fun b hb => absurd (show b ∈ ([] : List Addr) from hb) (by simp), hok, .of_eq hg⟩
  refine codeAny_mono ((F _ kH (nsH hns)).run callerA [] s1 H ⟨[.ref a], []⟩ [.ref a] [.ref a] _ _ hr e0 (hbind s1 (.ref a)) (.cons rfl .nil) hsp) fun r s2 h => ?_
  match r, h with
  | .error e, h => exact (hCX H e s2 h).elim
  | .ok (.ret u), h =>
    obtain ⟨v, H', os, bare, un, hok', r', q⟩ := h
    obtain rfl : v = .bl true := q
    obtain rfl : u = Value.bool true := r'
    refine ⟨rfl, OldK.of_keep fun b o e => ?_, os, bare⟩
    cases q : H b with
    | none => exact un.keep b o e q (by intro z; exact absurd (show b ∈ ([] : List Addr) from z) (by simp)) (by simp)
    | some u =>
      rcases hO b with z | ⟨ob, xs, z⟩
      · rw [q] at z
        cases z
      · obtain ⟨e1, _⟩ := hok b _ z
        obtain ⟨e2, _⟩ := hok' b _ (un.frzs b ob _ z)
        rw [e] at e1
        cases e1
        exact e2
theorem law_callG (KX : K.In s1.heap) (hns : s1.heap.Ns mainGlobals mg) (hb : s1.heap.Ns builtinsNs mb) (hbb : ∀ x : Str, x ≠ "__name__" → mb x = bootBuiltins x) (hlim : s1.heap.NoLimit) (hg : s1.gens = #[])
    (ha : s1.heap.get? a = some { cls := .type "list", data := .seq vs.toArray }) (hi : IntsAre vs ns) (hl : ns.length ≤ sizeLine) (hr : R callerA) (F : ∀ base : Heap, K.In base → base.Ns mainGlobals mg → FnG R P w K mg base CX fa fd [x] sp)
    (hbind : ∀ (s : Shared) (u : Value), BindsTo s fd ⟨[u], []⟩ [(x, u)]) (hsp : ∀ H : Hp, Only H → SqL K H a (ns.map V.int) → sp [.ref a] H (fun v _ => v = .bl true) fun _ _ _ => False)
    (hCX : ∀ H e s', CX [] H s1 (fun _ _ _ => False) e s' → False) :
    codeAny (model P w) callerA (.call (.ref fa) ⟨[.ref a], []⟩) (fun r s' => r = .ok (.ret (.bool true)) ∧ OldK s1.heap s'.heap ∧ s'.os = s1.os ∧ AllBare s'.gens) s1 := by
  have rv := vals_ints hi
  have from1 := law_from (R := R) (sp := sp) KX hns hb hbb hlim hg ha hr F hbind hCX
  cases hk : K.lookup a with
  | some o =>
    have e := KX a o hk
    rw [ha] at e
    cases e
    exact from1 (fun _ => none) (fun _ => .inl rfl) (hsp _ (fun _ => .inl rfl) (.inr ⟨_, vs.toArray, _, hk, rfl, rfl, rfl, by rw [List.size_toArray, hi.length]; exact hl, by simpa using rv⟩)) (fun b u z => by cases (show (none : Option HO) = some u from z)) (fun b z => absurd rfl z) fun z => absurd rfl z
  | none =>
    have only : Only fun b => if b = a then some (HO.frz { cls := .type "list", data := .seq vs.toArray } (.lst (ns.map V.int))) else none := fun b => by
      by_cases h : b = a
      · exact .inr ⟨_, _, if_pos h⟩
      · exact .inl (if_neg h)
    refine from1 _ only (hsp _ only (.inl (.inr ⟨_, if_pos rfl⟩))) (fun b u z => ?_) (fun b z => ?_) fun _ => hk
    · by_cases h : b = a
      · cases (if_pos h).symm.trans z
        subst h
        exact ⟨ha, by rw [List.length_map]; exact hl, vs, _, rv, ha⟩
      · cases (if_neg h).symm.trans z
    · by_cases h : b = a
      · exact h
      · exact absurd (if_neg h) z
end
/-- what k_head leaves, from a promise under R -/
theorem walk_ofG {R : Around → Prop} {l : PySem.W.OpenLaw} {n : Nat} {q : Program} {loose : List Str} {XP : (Str → Option Value) → Heap → Prop} {YP : World → Heap → Prop} {d : DefRec} {K : Params → PySem.W.Frag} {CX : World → CXT} {sp : World → Sp} {x : Str}
    (hn : l.most = some n) (hn2 : n ≤ sizeLine) (hdf : d.params.defaults = []) (hr : R callerA) (hY : ∀ (w : World) (h : Heap), YP w h → (K w.params).In h)
    (F : ∀ (w : World) (mg : Str → Option Value) (fa : Addr) (h : Heap), (K w.params).In h → h.Ns mainGlobals mg → mg d.name = some (.ref fa) →
      ∃ fd : FuncData, (∀ (s : Shared) (u : Value), BindsTo s fd ⟨[u], []⟩ [(x, u)]) ∧ ∀ base : Heap, (K w.params).In base → base.Ns mainGlobals mg → FnG R l.prog w (K w.params) mg base (CX w) fa fd [x] (sp w))
    (hsp : ∀ (w : World) (H : Hp) (a : Addr) (ns : List Int), ns.length ≤ n → Only H → SqL (K w.params) H a (ns.map V.int) → sp w [.ref a] H (fun v _ => v = .bl true) fun _ _ _ => False)
    (hCX : ∀ (w : World) (H : Hp) (s : Shared) (e : Value) (s' : Shared), CX w [] H s (fun _ _ _ => False) e s' → False) : PySem.W.WalkO q loose XP YP l.row.toRowW d [] (fun f vs => PySem.call f vs) := by
  refine Att.attach_call hn hdf fun w s₀ s₁ mg mb fa o pm cd doc a vs ns G Y ho hd hcd hmg hobj hints hlen hg => ?_
  have KX := hY w _ Y
  obtain ⟨fd, hb, hF⟩ := F w mg fa _ KX G.T.g hmg
  exact law_callG KX G.T.g G.T.b G.T.builtins G.T.nolimit hg hobj hints (Nat.le_trans hlen hn2) hr hF hb (fun H hO hS => hsp w H a ns hlen hO hS) fun H e s' => hCX w H s₁ e s'
theorem roomG_top {k : Nat} (h : Room k callerA) : RoomG k callerA := ⟨h, rfl⟩
end LX

set_option Elab.async false
set_option linter.all false
set_option maxRecDepth 100000
set_option maxHeartbeats 4000000
namespace LX
open PySem PySem.Spec PyProof.Rows L2
/-! ### repr(x) -/
inductive ReprT (K : PySem.W.Frag) (H : Hp) : V → Str → Prop
  | non : ReprT K H .non "None"
  | bl (b : Bool) : ReprT K H (.bl b) (if b then "True" else "False")
  | int (i : Int) (h : i.natAbs.log2 < 1920) : ReprT K H (.int i) (toString i)
  | str (z : Str) (h : (reprText z).length ≤ sizeLine) : ReprT K H (.str z) (reprText z)
  | ref {a : Addr} {d : PyData} (h : Dp K H (.ref a) d) (hs : d.showable = true) (hn : d.hasDict = false) (hd : d.depth ≤ 50) (hl : d.shown.length ≤ sizeLine) : ReprT K H (.ref a) d.shown
  | dict0 {a : Addr} (h : H a = some (.dK [])) : ReprT K H (.ref a) (PyData.dict []).shown
def rRepr (K : PySem.W.Frag) : List V → Hp → VK → Prop := fun xs H Q => ∃ x t, xs = [x] ∧ ReprT K H x t ∧ Q (.str t) H
theorem c_repr {X : Cx} (hg : X.A.guards = some []) (hu : X.A.units + 64 < cLine) : CallR X (.builtin "repr") (rRepr X.K) := by
  intro pins s σ H xs us Q I r h
  obtain ⟨x, t, rfl, hx, q⟩ := h
  cases r with
  | cons r rr =>
    cases rr
    cases hx with
    | non =>
      cases r
      exact PySem.P.repr_of_none ⟨.str _, H, I.tok _, ⟨_, rfl⟩, q⟩
    | bl b =>
      cases r
      exact PySem.P.repr_of_bool ⟨.str _, H, I.tok _, ⟨_, rfl⟩, q⟩
    | int i hi =>
      obtain ⟨tk, rfl⟩ := r
      exact PySem.P.repr_of_int hi ⟨.str _, H, I.tok _, ⟨_, rfl⟩, q⟩
    | str z hz =>
      obtain ⟨tk, rfl⟩ := r
      exact PySem.P.repr_of_str ⟨.str _, H, I.tok _, ⟨_, rfl⟩, q⟩ hz
    | @ref a d hd hs hn hdep hl =>
      obtain ⟨as, rd⟩ := Dp.reads I d _ _ hd r
      cases r
      refine repr_of_reads' rd hs (fun z => by rw [hn] at z; cases z) hg (by omega) (fun _ _ e => e) (fun h' u tk hk => ?_) hl
      exact ⟨.str _, H, I.kept (t' := tk) hk, ⟨_, rfl⟩, q⟩
    | @dict0 a ha =>
      cases r
      obtain ⟨_, ns, vs, kv, o, es, ep, h1, h2, h3, h4, h5, h6⟩ := dk_of I.hok ha
      cases kv
      have e0 : es.toList = [] := by
        generalize hl : es.toList = l at h5
        cases h5
        rfl
      have rd : Reads s.heap (.ref a) (.dict []) (a :: [] ++ []) := .dict h1 h2.1 h3 (by rw [e0]; exact .nil) (by rw [e0]; exact .nil)
      refine repr_of_reads' rd rfl (fun _ hm => ?_) hg (by show X.A.units + (1 + 1) < cLine; omega) (fun _ _ e => e) (fun h' u tk hk => ?_) (by decide +kernel)
      · have e : sysModules = a := by simpa using hm
        rw [← e] at ns
        simp at ns
      · exact ⟨.str _, H, I.kept (t' := tk) hk, ⟨_, rfl⟩, q⟩
end LX

set_option Elab.async false
set_option linter.all false
set_option maxRecDepth 100000
set_option maxHeartbeats 4000000
namespace LX
open PySem PySem.Spec PyProof.Rows L2

/-! ### a def called while an exception may be handled -/
def cxN (P : Program) (w : World) (K : PySem.W.Frag) (mg : Str → Option Value) (base : Heap) (N : List Str) (qual : Str) (scope : Scope) (f : Addr) (cd : Value) (A : Around) (outer : List Env) (s : Shared) (H : Hp) (E : XK) : Cx :=
  { cxOf (L2.CX P w) P w K mg base N qual scope f cd A outer s H E with calm := false }
structure FnN (P : Program) (w : World) (K : PySem.W.Frag) (mg : Str → Option Value) (base : Heap) (k : Nat) (f : Addr) (fd : FuncData) (ps : List Str) (sp : Sp) : Prop where
  len : ∀ vs H Q E, sp vs H Q E → vs.length = ps.length
  run : ∀ (A : Around) (outer : List Env) (s : Shared) (H : Hp) (args : Args) (us : List Value) (vs : List V) (Q : VK) (E : XK), L2H.RoomH k A → Env0 P w K mg base A outer s H → BindsTo s fd args (ps.zip us) → Vals vs us → sp vs H Q E →
    codeAny (model P w) A (.call (.ref f) args) (CR (L2.CX P w) outer P w H s Q E) s
section
variable {P : Program} {w : World} {K : PySem.W.Frag} {mg : Str → Option Value} {base : Heap} {N ps : List Str} {qual : Str} {scope : Scope} {f : Addr} {cd : Value} {A : Around} {outer : List Env} {s s1 : Shared} {H : Hp} {E : XK} {us : List Value} {vs : List V}
theorem start_val {v : V} {i : Nat} (h : (L2.start N vs)[i]? = some (some v)) : vs[i]? = some v := by
  unfold L2.start at h
  by_cases hi : i < vs.length
  · rw [List.getElem?_append_left (by simpa using hi), List.getElem?_map] at h
    obtain ⟨z, e, ez⟩ := Option.map_eq_some_iff.mp h
    rw [e, Option.some.inj ez]
  · rw [List.getElem?_append_right (by simpa using hi), List.getElem?_replicate] at h
    split at h <;> cases h
theorem inv_startN (S : FnScope N ps scope) (e0 : Env0 P w K mg base A outer s H) (hl : vs.length = ps.length) (r : Vals vs us)
    (x : InCallC s s.heap.objs.size (bindL (envOfC qual scope s.heap.objs.size f cd).kindOf (ps.zip us) fun _ => none) (cellsFrom (s.heap.objs.size + 1) scope.names []) (bindC (envOfC qual scope s.heap.objs.size f cd).kindOf (ps.zip us) fun _ => none) s1) :
    Inv (cxN P w K mg base N qual scope f cd A outer s H E) [] (L2.start N vs) H s1 := by
  have le : ps.length ≤ N.length := by
    have := congrArg List.length S.pre
    rw [List.length_take] at this
    omega
  obtain ⟨h1, tk, rfl, hk⟩ := x.done
  have none_ : ∀ b : Addr, b ∉ (cxN P w K mg base N qual scope f cd A outer s H E).ex := fun b z => absurd (show b ∈ ([] : List Addr) from z) (by simp)
  have ndP : ps.Nodup := by
    rw [← S.pre]
    exact S.nd.sublist (List.take_sublist _ _)
  refine ⟨⟨e0.mod, S.kind, rfl, rfl, Nat.le_refl _, fun y z c q1 q2 => name_of_addr x.apart (PySem.mem_of_lookup q1) (PySem.mem_of_lookup q2), fun y hy => ?_, fun y c _ q => Nat.le_of_lt (x.above y c (PySem.mem_of_lookup q)),
    (fun z => Bool.noConfusion (show false = true from z)), Around.frames_deeper e0.frames, .inr ⟨rfl, rfl⟩, fun b z => absurd z (none_ b), e0.bs, e0.bsz, fun b _ _ => none_ b, fun b z => absurd z (none_ b), e0.funs, e0.frf⟩,
    rfl, e0.bare, Un.kept hk, ⟨_, x.toInCall.ns, fun i y v q1 q2 q3 => ?_⟩, fun y c q => ⟨_, x.cell y c q⟩, e0.hok.fresh (Nat.le_refl _), fun y c q => e0.hok.fresh (Nat.le_of_lt (x.above y c (PySem.mem_of_lookup q))), fun q hq => absurd hq (by show q ∉ ([] ++ [] : List _); simp), e0.hok.kept hk, ?_⟩
  · rcases (show scope.names.lookup y = some .cell ∨ scope.names.lookup y = some .free from hy) with hy | hy
    · exact cell_has hy
    · exact absurd rfl (S.nofree _ (PySem.mem_of_lookup hy))
  · have ha := start_val q2
    have hi : i < vs.length := (List.getElem?_eq_some_iff.mp ha).1
    obtain ⟨u, hu, rv⟩ := r.get ha
    have hp : ps[i]? = some y := by
      rw [← S.pre, List.getElem?_take_of_lt (by omega)]
      exact q1
    refine ⟨u, rv, ?_⟩
    rcases S.par y (List.mem_of_getElem? hp) with k | k
    · exact .inl ⟨k, bindL_get ndP hp hu k⟩
    · obtain ⟨c, e⟩ := cell_has (n := s.heap.objs.size + 1) k
      have q := x.cell y c e
      rw [bindC_get ndP hp hu (by show scope.names.lookup y ≠ _; rw [k]; decide)] at q
      exact .inr ⟨.inl k, c, e, q⟩
  · unfold L2.start
    show _ = N.length
    rw [List.length_append, List.length_map, List.length_replicate]
    omega
end
theorem fnN {P : Program} {w : World} {K : PySem.W.Frag} {mg : Str → Option Value} {base : Heap} {x qual : Str} {st : Stmt} {f : Addr} {fd : FuncData} {N ps : List Str} {sp : Sp} {k : Nat} (F : Fun K x qual st f fd) (S : FnScope N ps (defScope st)) (len : ∀ vs H Q E, sp vs H Q E → vs.length = ps.length)
    (hbody : ∀ (cdv : Value) (A : Around) (outer : List Env) (s : Shared) (H : Hp) (vs : List V) (Q : VK) (E : XK), sp vs H Q E →
      ∃ t, PSs (cxN P w K mg base N qual (defScope st) f cdv A outer s H E) (defBody st) t ∧ t { nx := fun _ H' => Q .non H', rt := Q } (L2.start N vs) H) : FnN P w K mg base k f fd ps sp := by
  obtain ⟨oc, od, kV, doc, pm, an, cdv, ct, osl, rfl, lk, hcd⟩ := F.ex
  refine ⟨len, fun A outer s H args us vs Q E hr e0 hb r hsp => ?_⟩
  have up : ∀ b o, base.get? b = some o → s.heap.get? b = some o := fun b o e => (e0.bs b o e).1
  have kin := e0.mod.kin.keeps up
  have kinds : ∀ y ∈ ps.zip us, (defScope st).names.lookup y.1 = some .local ∨ ((defScope st).names.lookup y.1 = some .cell ∧ ((cellsFrom (s.heap.objs.size + 1) (defScope st).names []).lookup y.1).isSome = true) := fun y hy =>
    (S.par y.1 (List.of_mem_zip (a := y.1) (b := y.2) hy).1).imp id fun q => ⟨q, PySem.W.cellsFrom_some _ _ _ (.inl q)⟩
  refine codeAny_call_function hr.depth (kin _ _ lk) rfl S.co S.gen rfl (PySem.W.codeRec_of kin hcd) (hb _ _ _ _ (wpAny_newFunctionEnv_cells S.kind kinds fun env he s1 x => ?_))
  subst he
  refine ⟨(e0.mod.nolimit.keeps up).keeps x.toInCall.keep, codeAny_func ?_⟩
  obtain ⟨t, ht, hq⟩ := hbody cdv A outer s H vs Q E hsp
  refine wpAny_mono (ht.run [] s1 (L2.start N vs) H _ (inv_startN S e0 (len _ _ _ _ hsp) r x) hq) (fun fl s' hs => ?_) fun e s' hs => hs
  cases fl with
  | ret u =>
    obtain ⟨v, σ', H', J, rv, q⟩ := hs
    exact ⟨v, H', J.os, J.bare, J.base, J.hok, rv, q⟩
  | next =>
    obtain ⟨σ', H', J, q⟩ := hs
    exact ⟨V.non, H', J.os, J.bare, J.base, J.hok, rfl, q⟩
  | brk => exact hs.elim fun _ h => h.elim fun _ h => h.2.elim
  | cont => exact hs.elim fun _ h => h.elim fun _ h => h.2.elim
theorem run_fnN {X : Cx} {k : Nat} {f : Addr} {fd : FuncData} {ps : List Str} {sp : Sp} {pins : List (Addr × Obj)} {σ : L2.St} {H : Hp} {s : Shared} {Q : VK} {us : List Value} {vs : List V} (F : FnN X.prog X.w X.K X.mg X.base k f fd ps sp) (hr : L2H.RoomH k X.A) (hb : Binds X.K fd ps [])
    (I : Inv X pins σ H s) (r : Vals vs us) (h : sp vs H Q E0) : wpAny (model X.prog X.w) X.A (call (.ref f) us) (EP X pins σ Q) X.xe s := by
  have hl : us.length = ps.length := r.length ▸ F.len _ _ _ _ h
  have b := hb s us I.kIn ((List.append_nil us).symm ▸ hl)
  rw [List.append_nil] at b
  refine wpAny_call (codeAny_mono (F.run X.A X.stack s H ⟨us, []⟩ us vs Q E0 hr I.env0 b r h) fun z s' hq => ?_)
  match z, hq with
  | .error e, hq => exact (passL pins σ H s e s' I hq : X.xe e s')
  | .ok (.ret u), hq => exact I.after hq

/-! ### e.m() of a caught exception, in its suite -/
theorem canon_exc : (Manifest.canonical "BaseException.__getattribute__" != "object.__getattribute__") = false := by decide +kernel
theorem meth_exc {prog : Program} {w : World} {A : Around} {E : Value → Shared → Prop} {s : Shared} {K : PySem.W.Frag} {x C dx f : Addr} {ox o : Obj} {name : Str} {pl : Sem Bool} {Q : Value × List Value → Shared → Prop} (X : K.In s.heap) (I : PySem.W.InstAt s.heap x ox C (some o))
    (hga : PySem.W.findIn K (.ref C) "__getattribute__" = some (some (.builtin "BaseException.__getattribute__"))) (hk : PySem.W.findIn K (.ref C) "__getattr__" = some none) (hf : PySem.W.findIn K (.ref C) name = some (some (.ref f))) (ht : PySem.W.typeIn K (.ref f) = some (.type "function"))
    (hs : PySem.W.lookIn name o = some none) (hd : ox.dict = some dx) (h : Q (.ref f, [.ref x]) s) : wpAny (model prog w) A (getMethod (.ref x) name pl) Q E s := by
  have hcan := canon_exc
  unfold getMethod specialOf
  refine wpAny_bind (wpAny_bind (I.type.here ((PySem.W.looks_findIn X hga).here ?_)))
  dsimp only
  rw [hcan, if_neg (by decide)]
  refine wpAny_bind (wpAny_bind (I.type.here ((PySem.W.looks_findIn X hk).here (wpAny_bind (wpAny_bind (I.type.here ((PySem.W.looks_findIn X hf).here (wpAny_bind ((PySem.W.looks_typeIn X ht).here ?_)))))))))
  rw [if_neg (by decide +kernel)]
  refine wpAny_bind (wpAny_loadPart I.at_ ?_)
  have hd' := I.dict
  rw [hd] at hd' ⊢
  refine wpAny_bind (wpAny_bind (wpAny_loadPart hd' ?_))
  rw [PySem.W.nsLook_of hs]
  exact wpAny_pure (wpAny_bind (wpAny_rule (wpAny_pure h)))
def tXm (a : Addr) (cls : Value) (d : Option Addr) (C : Addr) (m : Str) (sp : Sp) (te : TE) : TE := fun σ H Q => te σ H fun x H1 => x = .ref a ∧ cls = .ref C ∧ (∃ (dd : Addr) (fs : List (Str × V)), d = some dd ∧ H1 dd = some (.xd fs) ∧ fs.lookup m = none) ∧ sp [.ref a] H1 Q E0
/-- facts of the exception's method -/
structure XMeth (K : PySem.W.Frag) (C : Addr) (m : Str) (f : Addr) : Prop where
  get : PySem.W.findIn K (.ref C) m = some (some (.ref f))
  ty : PySem.W.typeIn K (.ref f) = some (.type "function")
  kp : PySem.W.keepIn K (.ref f) = true
theorem pe_xm0 {X : Cx} {a C f : Addr} {oe : Obj} {cls : Value} {d : Option Addr} {pn : List (Addr × Obj)} {e : Expr} {te : TE} {pos apos : Pos} {m : Str} {k : Nat} {fd : FuncData} {ps : List Str} {sp : Sp} {pl : Sem Bool} (T : XfC X.K C) (hm : XMeth X.K C m f)
    (hz : Zc cls d oe) (hf : ∃ vs, oe.data = .fields vs) (F : FnN X.prog X.w X.K X.mg X.base k f fd ps sp) (hr : L2H.RoomH k (X.suite a ((a, oe) :: pn)).A) (hb : Binds X.K fd ps []) (he : PE (X.suite a ((a, oe) :: pn)) e te)
    (ht : eval (.Call (.Attribute e m apos) [] [] pos) X.env = (do
      let ov ← eval e X.env
      standAt apos.atName
      let (f, first) ← holding [ov] (getMethod ov m pl)
      callWith pos f first (backTo pos (starEach [] X.env)) (backToKw pos (keywordEach [] X.env))) := by rfl) :
    PE (X.suite a ((a, oe) :: pn)) (.Call (.Attribute e m apos) [] [] pos) (tXm a cls d C m sp te) := by
  refine ⟨fun pins s σ H Q I h => PySem.W.methodCall_KW (pl := pl) (thn (he.run pins s σ H _ I h) fun u s1 hu => ?_) ht⟩
  obtain ⟨y, H1, I1, ry, rfl, rfl, ⟨dd, fs, rfl, ea, l⟩, q⟩ := hu
  obtain rfl : u = Value.ref a := ry
  obtain ⟨ha, _⟩ := I1.pin (a, oe) (List.mem_append_left _ List.mem_cons_self)
  obtain ⟨vs, hd⟩ := hf
  obtain ⟨mA, hns, hrr⟩ := (show ObjOk X.prog X.w H1 s1.heap dd (.xd fs) from I1.hok dd _ ea)
  obtain ⟨od, ho, hl⟩ := lookIn_ns hns
  have nn : mA m = none := RelO.none_of (by rw [← l]; exact hrr m)
  have J : PySem.W.InstAt s1.heap a oe C (some od) := ⟨ha, hz.1, by unfold PySem.W.notCls; rw [hd] <;> rfl, by rw [hz.2]; exact ho⟩
  exact meth_exc I1.kIn J T.ga T.gg hm.get hm.ty (by rw [hl, nn]) hz.2 (PySem.W.callWith_K0 (first := [.ref a]) I1.kIn hm.kp (run_fnN (us := [.ref a]) (vs := [.ref a]) F hr hb I1 (.cons rfl .nil) q))
end LX

set_option Elab.async false
set_option linter.all false
set_option maxRecDepth 100000
set_option maxHeartbeats 4000000
namespace LX
open PySem PySem.Spec PyProof.Rows L2
/-! ### by name -/
def rMax2 : List V → Hp → VK → Prop := fun xs H Q => ∃ i j, xs = [.int i, .int j] ∧ Q (.int (if j > i then j else i)) H
def rMin2 : List V → Hp → VK → Prop := fun xs H Q => ∃ i j, xs = [.int i, .int j] ∧ Q (.int (if j < i then j else i)) H
def rListOf (K : PySem.W.Frag) : List V → Hp → VK → Prop := fun xs H Q => ∃ p ys, xs = [.ref p] ∧ (SqL K H p ys ∨ SqT K H p ys) ∧ ∀ l, H l = none → Q (.ref l) (upd H l (.lst ys))
def rListS : List V → Hp → VK → Prop := fun xs H Q => ∃ x : Str, xs = [.str x] ∧ x.length ≤ sizeLine ∧ ∀ l, H l = none → Q (.ref l) (upd H l (.lst (x.cps.toList.map fun c => .str ⟨#[c]⟩)))
def rSIndex : V → List V → Hp → VK → Prop := fun x xs H Q => ∃ a b i rest, x = .str a ∧ xs = [.str b] ∧ Builtin.Str.occurrences a b 0 a.length 1 = i :: rest ∧ Q (.int (i : Nat)) H
def rJoin (K : PySem.W.Frag) : V → List V → Hp → VK → Prop := fun x xs H Q => ∃ a p, ∃ ys : List Str, x = .str a ∧ xs = [.ref p] ∧ (SqL K H p (ys.map V.str) ∨ SqT K H p (ys.map V.str)) ∧ (ys.map (·.length)).sum + ys.length * a.length ≤ 16777216 ∧ Q (.str (Txt.join a ys)) H
section
variable {X : Cx}
theorem c_max2 (hc : X.calm = true) : CallR X (.builtin "max") rMax2 := call_max2 hc
theorem c_min2 (hc : X.calm = true) : CallR X (.builtin "min") rMin2 := call_min2 hc
theorem c_listOf : CallR X (.type "list") (rListOf X.K) := call_list_of
theorem m_sindex : MtR X "str.index" rSIndex := mt_sindex
theorem m_join : MtR X "str.join" (rJoin X.K) := mt_join
/-- list(text) -/
theorem c_listS (hc : X.calm = true) : CallR X (.type "list") rListS := by
  intro pins s σ H xs us Q I r h
  obtain ⟨x, rfl, hz, q⟩ := h
  cases r with
  | cons r rr =>
    cases rr
    obtain ⟨t, rfl⟩ := r
    refine call_list_str (I.ok.hd hc) x t (hn := hz) fun h' tk acc' c' hk ho hit => ?_
    have rel : Vals (x.cps.toList.map fun c => V.str ⟨#[c]⟩) acc'.toList := by
      refine vals_of_at (by simp [hit.1]) fun j y u hy hu => ?_
      obtain ⟨c, tk', hc', rfl⟩ := hit.2 j u (by simpa using hu)
      rw [List.getElem?_map] at hy
      have : x.cps.toList[j]? = some c := by simpa using hc'
      rw [this] at hy
      cases hy
      exact ⟨tk', rfl⟩
    refine ⟨.ref _, _, I.laid (t' := tk) (a := s.heap.objs.size) (o := .lst (x.cps.toList.map fun c => V.str ⟨#[c]⟩)) (fun b u e => hk b u e) (Nat.le_refl _) ⟨by rw [List.length_map]; show x.cps.toList.length ≤ _; rw [Array.length_toList]; exact hz, acc'.toList, c', rel, by simpa using ho⟩, rfl, q _ (I.hok.fresh (Nat.le_refl _))⟩
/-- {k: v}, k a tuple of whole numbers and texts -/
def tDisp1T (tk tv : TE) : TE := fun σ H Q => ∀ p, H p = none → tk σ (upd H p (.dT [])) fun x H1 => tv σ H1 fun y H2 => ∃ (b : Addr) (k : List L2.Key), x = .ref b ∧ H2 b = some (.tup (k.map kV)) ∧ H2 p = some (.dT []) ∧ Q (.ref p) (upd H2 p (.dT [(k, y)]))
theorem pe_disp1T {k v : Expr} {tk tv : TE} {pos : Pos} (hu : X.A.units + 1 < cLine) (hk : PE X k tk) (hv : PE X v tv) : PE X (.Dict [some k] [v] pos) (tDisp1T tk tv) := by
  refine ⟨fun pins s σ H Q I q => ?_⟩
  have hn := I.hok.fresh (Nat.le_refl s.heap.objs.size)
  have I1 := I.laid (a := s.heap.objs.size) (o := .dT []) (h' := s.heap.push { cls := .type "dict", data := .dict #[] }) (t' := s.toks) (fun _ _ q => Heap.get?_push_of_some _ q) (Nat.le_refl _) (dt_empty s.heap I.big)
  rw [arm_eval_Dict, zip_pairTrees _ _ _ _ rfl rfl, dictDisplay_pairs (pairTrees [some k] [v] X.env pos) (fun z => nomatch z) (by show 1 < 17; decide)]
  refine wpAny_bind (wpAny_standAt (wpAny_bind (wpAny_subDictH (knd := tupleKind (mixKind X.prog X.w)) (show X.A.units < cLine by omega) (by show 1 ≤ 15; decide) ?_)))
  refine pairTrees_cons_walk (thn (hk.run pins _ σ _ _ I1 (q _ hn)) fun u s1 hu1 => ?_)
  obtain ⟨x, H1, J1, rx, q1⟩ := hu1
  refine thn (hv.run pins s1 σ H1 _ J1 q1) fun u2 s2 hu2 => ?_
  obtain ⟨y, H2, J2, ry, b, ks, rfl, eb, ep, q2⟩ := hu2
  cases rx
  refine pairTrees_nil_walk ?_
  obtain ⟨z, hd, xs, r0, dd⟩ := dt_of J2.hok ep
  cases r0
  refine ⟨[(ks, b, u2)], ⟨rfl, rfl, key_of J2.hok eb, trivial⟩, dd, fun h' t' dd' hs => ?_⟩
  obtain ⟨o, es, epo, hq, h2, h3, h4, _, h5⟩ := dd'
  have bp : b ≠ s.heap.objs.size := ne_of eb ep (fun z => nomatch z)
  have J3 : Inv X pins σ (upd H2 s.heap.objs.size (.dT [(ks, y)])) { s2 with heap := h', toks := t' } :=
    d_write J2 (by rw [ep]; exact True.intro) hs ⟨o, hq⟩ ⟨by show 1 ≤ sizeLine; decide, hd, [(ks, b, u2)], .cons ⟨rfl, by rw [upd_ne bp]; exact eb, ry⟩ .nil, o, es, epo, hq, h2, h3, h4, h5⟩
  exact wpAny_pure ⟨.ref _, _, J3, rfl, q2⟩
end
theorem suiteH {X : Cx} {a : Addr} {pn : List (Addr × Obj)} {k : Nat} (hr : Room k X.A) : L2H.RoomH k (X.suite a pn).A := ⟨hr.dp, hr.un⟩
/-- facts of a class whose instances are asked for by isinstance -/
structure InstC (K : PySem.W.Frag) (C : Addr) : Prop where
  cl : Cls K C
  ha : PySem.W.findIn K (.ref C) "__class__" = some (some (.builtin "object.__class__"))
  hn : PySem.W.specialIn K (.builtin "object.__class__") "__get__" = some (some (.builtin "getset_descriptor.__get__"))
  ht : PySem.W.takesIn K (.builtin "object.__class__") = some true
  hm : PySem.W.mroIn K C (.type "object") = some true
theorem InstC.ty {K : PySem.W.Frag} {C a dx : Addr} {H : Hp} {fs : List (Str × V)} (I : InstC K C) (e : H a = some (.ins C dx fs)) : TyX K H (.ref a) (.ref C) := .base (.ins e I.cl I.ha I.hn I.ht I.hm)
end LX

set_option Elab.async false
set_option linter.all false
set_option maxRecDepth 100000
set_option maxHeartbeats 4000000
namespace LX
open PySem PySem.Spec PyProof.Rows L2
theorem w_yes {σ : L2.St} {H : Hp} {A B : Hp → Prop} (h : A H) : tYes σ H fun b H3 => if b = true then A H3 else B H3 := by
  show if true = true then A H else B H
  rw [if_pos rfl]
  exact h
/-- an iterator that gives places and items, each pair in a new tuple -/
structure EnR (R : Hp → Prop) (J : It) (n : Nat) (v : Nat → V) : Prop where
  go : ∀ i H, R H → i < n → J.go i H
  stop : ∀ H, R H → J.stop n H
  yld : ∀ i H x H', R H → i < n → J.yld i H x H' → ∃ T, x = .ref T ∧ H T = none ∧ H' = upd H T (.tup [.int (i : Nat), v i])
theorem enR_list (K : PySem.W.Frag) (a : Addr) (xs : List V) : EnR (fun H => SqL K H a xs) (Ite K a) xs.length fun i => xs.getD i .non :=
  ⟨fun i H r h => ⟨xs, xs[i], r, List.getElem?_eq_getElem h⟩, fun H r => ⟨xs, r, Nat.le_refl _⟩, fun i H x H' r h y => by
    obtain ⟨T, z, rfl, hT, rfl, k⟩ := y
    have := k xs r
    refine ⟨T, rfl, hT, ?_⟩
    rw [List.getD_eq_getElem?_getD, this]
    rfl⟩
theorem enR_tup (K : PySem.W.Frag) (a : Addr) (xs : List V) : EnR (fun H => SqT K H a xs) (ItnT K a xs) xs.length fun i => xs.getD i .non :=
  ⟨fun i H r h => ⟨h, r⟩, fun H r => ⟨rfl, r⟩, fun i H x H' r h y => y⟩
section
variable {Rk : Hp → Prop} {J : It} {n : Nat} {v : Nat → V} {g : TG} {tt : TT} {te : TE} {vs : List Nat} {σ : L2.St} {H1 : Hp} {Dl : Addr} {Qd : Hp → Prop}
theorem for_enR {tb : TS} {D : Ends} {σ : L2.St} {H : Hp} (F : EnR Rk J n v) (Pv : Nat → L2.St → Hp → Prop) (kR : ∀ i σ H, Pv i σ H → Rk H) (h0 : Pv 0 σ H)
    (hs : ∀ i σ H T, i < n → Pv i σ H → H T = none → g (.ref T) σ (upd H T (.tup [.int (i : Nat), v i])) fun σ2 H2 => tb { D with nx := Pv (i + 1), ct := Pv (i + 1), bk := D.nx } σ2 H2) (hd : ∀ σ H, Pv n σ H → D.nx σ H) :
    ∃ W : Nat → Nat → L2.St → Hp → Prop, (∃ m, W 0 m σ H) ∧ ∀ i m σ H, W i m σ H →
      (J.stop i H ∧ D.nx σ H) ∨ (J.go i H ∧ ∃ N : L2.St → Hp → Prop, (∀ σ' H', N σ' H' → ∃ m', m' < m ∧ W (i + 1) m' σ' H') ∧ ∀ x H', J.yld i H x H' → g x σ H' fun σ2 H2 => tb { D with nx := N, ct := N, bk := D.nx } σ2 H2) := by
  refine ⟨fun i m σ H => m = n - i ∧ i ≤ n ∧ Pv i σ H, ⟨n, by simp, Nat.zero_le _, h0⟩, ?_⟩
  rintro i m σ H ⟨rfl, hi, p⟩
  by_cases hlt : i < n
  · refine .inr ⟨F.go i H (kR _ _ _ p) hlt, Pv (i + 1), fun σ' H' p' => ⟨n - (i + 1), by omega, rfl, hlt, p'⟩, fun x H' y => ?_⟩
    obtain ⟨T, rfl, hT, rfl⟩ := F.yld i H x H' (kR _ _ _ p) hlt y
    exact hs i σ _ T hlt p hT
  · have e : i = n := by omega
    subst e
    exact .inl ⟨F.stop H (kR _ _ _ p), hd σ H p⟩
theorem lc_enR (F : EnR Rk J n v) (Pv : Nat → Hp → Prop) (kR : ∀ i H, Pv i H → Rk H) (h0 : Pv 0 (upd H1 Dl (.lst [])))
    (hs : ∀ i H T, i < n → Pv i H → H T = none → g (.ref T) (wipe σ vs) (upd H T (.tup [.int (i : Nat), v i])) fun σ2 H2 => wipe σ2 vs = wipe σ vs ∧ tt σ2 H2 fun b H3 =>
      if b = true then te σ2 H3 fun y H4 => ∃ acc, H4 Dl = some (.lst acc) ∧ acc.length < sizeLine ∧ Pv (i + 1) (upd H4 Dl (.lst (acc ++ [y]))) else Pv (i + 1) H3) (hd : ∀ H, Pv n H → Qd H) :
    ∃ W : Nat → Nat → Hp → Prop, (∃ m, W 0 m (upd H1 Dl (.lst []))) ∧ ∀ i m H, W i m H →
      (J.stop i H ∧ Qd H) ∨ (J.go i H ∧ ∃ Nx : Hp → Prop, (∀ H', Nx H' → ∃ m', m' < m ∧ W (i + 1) m' H') ∧ ∀ x H', J.yld i H x H' → g x (wipe σ vs) H' fun σ2 H2 => wipe σ2 vs = wipe σ vs ∧ tt σ2 H2 fun b H3 =>
        if b = true then te σ2 H3 fun y H4 => ∃ acc, H4 Dl = some (.lst acc) ∧ acc.length < sizeLine ∧ Nx (upd H4 Dl (.lst (acc ++ [y]))) else Nx H3) := by
  refine ⟨fun i m H => m = n - i ∧ i ≤ n ∧ Pv i H, ⟨n, by simp, Nat.zero_le _, h0⟩, ?_⟩
  rintro i m H ⟨rfl, hi, p⟩
  by_cases hlt : i < n
  · refine .inr ⟨F.go i H (kR _ _ p) hlt, Pv (i + 1), fun H' p' => ⟨n - (i + 1), by omega, rfl, hlt, p'⟩, fun x H' y => ?_⟩
    obtain ⟨T, rfl, hT, rfl⟩ := F.yld i H x H' (kR _ _ p) hlt y
    exact hs i _ T hlt p hT
  · have e : i = n := by omega
    subst e
    exact .inl ⟨F.stop H (kR _ _ p), hd H p⟩
/-- a comprehension without a test whose element is read off: the list of the elements -/
theorem lc_mapR (F : FixR Rk J n v) {i : Nat} (f : Nat → V) (hn : n ≤ 16000000) (hD : H1 Dl = none) (kR : ∀ H, Same H1 H → Rk H) (hw : ∀ x, wipe ((wipe σ [i]).set i (some x)) [i] = wipe σ [i])
    (ht : ∀ j H Q, j < n → Same H1 H → (∀ H', Same H H' → Q (f j) H') → te ((wipe σ [i]).set i (some (v j))) H Q) (hd : ∀ H, Same H1 H → H Dl = some (.lst ((List.range n).map f)) → Qd H) :
    ∃ W : Nat → Nat → Hp → Prop, (∃ m, W 0 m (upd H1 Dl (.lst []))) ∧ ∀ k m H, W k m H →
      (J.stop k H ∧ Qd H) ∨ (J.go k H ∧ ∃ Nx : Hp → Prop, (∀ H', Nx H' → ∃ m', m' < m ∧ W (k + 1) m' H') ∧ ∀ x H', J.yld k H x H' → gName i x (wipe σ [i]) H' fun σ2 H2 => wipe σ2 [i] = wipe σ [i] ∧ tYes σ2 H2 fun b H3 =>
        if b = true then te σ2 H3 fun y H4 => ∃ acc, H4 Dl = some (.lst acc) ∧ acc.length < sizeLine ∧ Nx (upd H4 Dl (.lst (acc ++ [y]))) else Nx H3) := by
  refine lc_fixR F (fun k H => Same H1 H ∧ H Dl = some (.lst ((List.range k).map f))) (fun _ H p => kR H p.1) ⟨fun b o e => up_new hD e, upd_same⟩ (fun k H hk p => ⟨hw _, ?_⟩) (fun H p => hd H p.1 p.2)
  obtain ⟨s, e⟩ := p
  refine w_yes ?_
  refine ht k H _ hk s fun H' s' => ?_
  refine ⟨_, s' _ _ e, by rw [List.length_map, List.length_range, sizeLine_eq]; omega, fun b o hb => ?_, ?_⟩
  · rw [upd_ne (ne_of_none hb hD)]
    exact s' _ _ (s b o hb)
  · rw [upd_same, List.range_succ, List.map_append]
    rfl
end
section
variable {K : PySem.W.Frag} {σ : L2.St} {H : Hp} {D : Ends} {Q : VK} {ta tb te : TE} {ts : TA}
theorem w_lc {wi : TI} {g : TG} {tt : TT} {te : TE} {vs : List Nat} (h : wi σ H fun J H1 => ∀ D, H1 D = none → ∃ W : Nat → Nat → Hp → Prop, (∃ m, W 0 m (upd H1 D (.lst []))) ∧ ∀ i m H, W i m H →
  (J.stop i H ∧ Q (.ref D) H) ∨ (J.go i H ∧ ∃ Nx : Hp → Prop, (∀ H', Nx H' → ∃ m', m' < m ∧ W (i + 1) m' H') ∧ ∀ x H', J.yld i H x H' → g x (wipe σ vs) H' fun σ2 H2 => wipe σ2 vs = wipe σ vs ∧ tt σ2 H2 fun b H3 =>
    if b = true then te σ2 H3 fun y H4 => ∃ acc, H4 D = some (.lst acc) ∧ acc.length < sizeLine ∧ Nx (upd H4 D (.lst (acc ++ [y]))) else Nx H3)) : tLc wi g tt te vs σ H Q := h
theorem w_iEnum {R : It → Hp → Prop} (h : ts σ H fun vs H1 => ∃ a xs, vs = [.ref a] ∧ SqL K H1 a xs ∧ R (Ite K a) H1) : iEnum K ts σ H R := h
theorem w_iEnumT {R : It → Hp → Prop} (h : ts σ H fun vs H1 => ∃ a xs, vs = [.ref a] ∧ SqT K H1 a xs ∧ R (ItnT K a xs) H1) : iEnumT K ts σ H R := h
theorem w_chain {r s : R2} {tc : TE} (h : ta σ H fun x H1 => tb σ H1 fun y H2 => r x y H2 fun u H3 => ∃ k, u = .bl k ∧ if k = true then tc σ H3 fun z H4 => s y z H4 Q else Q (.bl false) H3) : tChain r s ta tb tc σ H Q := h
theorem w_all {p : Addr} {bs : List Bool} (hs : SqL K H p (bs.map V.bl)) (h : Q (.bl (bs.all id)) H) : rAll K [.ref p] H Q := ⟨p, bs, rfl, hs, h⟩
theorem w_kTupL {p : Addr} {xs : List V} (hs : SqL K H p xs) (h : ∀ q, H q = none → Q (.ref q) (upd H q (.tup xs))) : kTup K (.ref p) H Q := .inl ⟨p, xs, rfl, hs, h⟩
theorem w_kTupT {p : Addr} {xs : List V} (hs : SqT K H p xs) (h : Q (.ref p) H) : kTup K (.ref p) H Q := .inr ⟨p, xs, rfl, hs, h⟩
theorem w_bm {T : String} {r : V → List V → Hp → VK → Prop} (h : ta σ H fun x H1 => tyV K T x H1 ∧ ts σ H1 fun vs H2 => r x vs H2 Q) : tBM K T r ta ts σ H Q := h
theorem ty_list {p : Addr} {xs : List V} (hs : SqL K H p xs) : tyV K "list" (.ref p) H := .inl ⟨rfl, _, hs⟩
end
end LX

set_option Elab.async false
set_option linter.all false
set_option maxRecDepth 100000
set_option maxHeartbeats 4000000
namespace LX
open PySem PySem.Spec PyProof.Rows L2
/-! ### how heaps change -/
theorem same_new {H H1 : Hp} {p : Addr} {o : HO} (x : Same H H1) (n : H1 p = none) : Same H (upd H1 p o) := fun b u h => up_new n (x b u h)
theorem same_mut {H H1 : Hp} {p : Addr} {o : HO} (x : Same H H1) (n : H p = none) : Same H (upd H1 p o) := fun b u h => by rw [upd_ne (ne_of_none h n)]; exact x b u h
theorem none_old {H H1 : Hp} {p : Addr} (x : Same H H1) (n : H1 p = none) : H p = none := by
  cases e : H p with
  | none => rfl
  | some u => rw [x p u e] at n; cases n
/-- all but a is as it was -/
def But (a : Addr) (H H' : Hp) : Prop := ∀ b o, H b = some o → b ≠ a → H' b = some o
theorem But.refl (a : Addr) (H : Hp) : But a H H := fun _ _ h _ => h
theorem But.trans {a : Addr} {H H1 H2 : Hp} (x : But a H H1) (y : But a H1 H2) : But a H H2 := fun b o h n => y b o (x b o h n) n
theorem But.at_ {a : Addr} {H : Hp} {o : HO} : But a H (upd H a o) := fun b u h n => by rw [upd_ne n]; exact h
theorem But.new {a p : Addr} {H H1 : Hp} {o : HO} (x : But a H H1) (n : H1 p = none) : But a H (upd H1 p o) := fun b u h hn => up_new n (x b u h hn)
theorem But.mut {a p : Addr} {H H1 : Hp} {o : HO} (x : But a H H1) (n : H p = none) : But a H (upd H1 p o) := fun b u h hn => by rw [upd_ne (ne_of_none h n)]; exact x b u h hn
theorem But.mutA {a : Addr} {H H1 : Hp} {o : HO} (x : But a H H1) : But a H (upd H1 a o) := fun b u h hn => by rw [upd_ne hn]; exact x b u h hn
theorem But.same {a : Addr} {H0 H H1 : Hp} (b : But a H H1) (s : Same H0 H) (n : H0 a = none) : Same H0 H1 := fun c o h => b c o (s c o h) (ne_of_none h n)
theorem But.thenSame {a : Addr} {H0 H H1 : Hp} (b : But a H0 H) (s : Same H H1) : But a H0 H1 := fun c o h n => s c o (b c o h n)
theorem But.of {a : Addr} {H H1 : Hp} (s : Same H H1) : But a H H1 := fun c o h _ => s c o h
theorem sqL_same {K : PySem.W.Frag} {H H' : Hp} {a : Addr} {xs : List V} (h : SqL K H a xs) (s : Same H H') : SqL K H' a xs := by
  rcases h with (h | ⟨o, h⟩) | h
  · exact .inl (.inl (s _ _ h))
  · exact .inl (.inr ⟨o, s _ _ h⟩)
  · exact .inr h
/-! ### the law's source of ints -/
def SrcAt (H : Hp) (s : Addr) : Prop := ∃ a b c : Int, H s = some (.lst [.int a, .int b, .int c])
theorem b01 (b : Bool) : -(2 ^ 64) < (if b = true then (1 : Int) else 0) ∧ (if b = true then (1 : Int) else 0) < 2 ^ 64 := by cases b <;> decide
theorem SrcAt.new {H : Hp} {s p : Addr} {o : HO} (h : SrcAt H s) (hp : H p = none) : SrcAt (upd H p o) s := by
  obtain ⟨a, b, c, e⟩ := h
  exact ⟨a, b, c, up_new hp e⟩
theorem SrcAt.ne {H : Hp} {s p : Addr} (h : SrcAt H s) (hp : H p = none) : p ≠ s := by
  obtain ⟨a, b, c, e⟩ := h
  exact (ne_of_none e hp).symm
theorem SrcAt.same {H H1 : Hp} {s : Addr} (h : SrcAt H s) (t : Same H H1) : SrcAt H1 s := by
  obtain ⟨a, b, c, e⟩ := h
  exact ⟨a, b, c, t _ _ e⟩
theorem SrcAt.mut {H : Hp} {s p : Addr} {o : HO} (h : SrcAt H s) (hp : p ≠ s) : SrcAt (upd H p o) s := by
  obtain ⟨a, b, c, e⟩ := h
  exact ⟨a, b, c, by rw [upd_ne hp.symm]; exact e⟩
/-! ### lists of numbers, tables -/
def IL (ns : List Nat) : List V := ns.map fun n => .int (n : Nat)
theorem IL_len (ns : List Nat) : (IL ns).length = ns.length := List.length_map _
theorem IL_app (a b : List Nat) : IL (a ++ b) = IL a ++ IL b := List.map_append
theorem IL_get {ns : List Nat} {i : Nat} (h : i < ns.length) : (IL ns)[i]? = some (.int (ns.getD i 0 : Nat)) := by
  unfold IL
  rw [List.getElem?_map, List.getD_eq_getElem?_getD, List.getElem?_eq_getElem h]
  rfl
theorem IL_getD {ns : List Nat} {i : Nat} (h : i < ns.length) : (IL ns).getD i .non = .int (ns.getD i 0 : Nat) := by
  rw [List.getD_eq_getElem?_getD, IL_get h]
  rfl
theorem IL_at {ns : List Nat} {i : Nat} (h : i < ns.length) : atI (IL ns) (i : Nat) = some (.int (ns.getD i 0 : Nat)) := atI_nat (IL_get h)
theorem IL_ints (ns : List Nat) : IL ns = (ns.map fun n => ((n : Nat) : Int)).map V.int := by
  unfold IL
  rw [List.map_map]
  rfl
/-- a table at p: o makes the outer, u the rows -/
def Mat (o u : List V → HO) (H : Hp) (p : Addr) (R : List (List Nat)) : Prop := ∃ ps : List Addr, H p = some (o (ps.map V.ref)) ∧ ps.length = R.length ∧ ∀ i, i < R.length → H (ps.getD i 0) = some (u (IL (R.getD i [])))
theorem Mat.same {o u : List V → HO} {H H' : Hp} {p : Addr} {R : List (List Nat)} (m : Mat o u H p R) (s : Same H H') : Mat o u H' p R := by
  obtain ⟨ps, h1, h2, h3⟩ := m
  exact ⟨ps, s _ _ h1, h2, fun i hi => s _ _ (h3 i hi)⟩
theorem refs_get {ps : List Addr} {i : Nat} (h : i < ps.length) : (ps.map V.ref)[i]? = some (.ref (ps.getD i 0)) := by
  rw [List.getElem?_map, List.getD_eq_getElem?_getD, List.getElem?_eq_getElem h]
  rfl
theorem refs_getD {ps : List Addr} {i : Nat} (h : i < ps.length) : (ps.map V.ref).getD i .non = .ref (ps.getD i 0) := by
  rw [List.getD_eq_getElem?_getD, refs_get h]
  rfl
theorem refs_at {ps : List Addr} {i : Nat} (h : i < ps.length) : atI (ps.map V.ref) (i : Nat) = some (.ref (ps.getD i 0)) := atI_nat (refs_get h)
theorem refs_len (ps : List Addr) : (ps.map V.ref).length = ps.length := List.length_map _
theorem all_true (n : Nat) : ((List.range n).map fun _ => V.bl true) = (List.replicate n true).map V.bl ∧ (List.replicate n true).all id = true := by
  refine ⟨?_, ?_⟩
  · rw [List.map_replicate]
    exact List.eq_replicate_iff.mpr ⟨by simp, fun x hx => by obtain ⟨_, _, e⟩ := List.mem_map.mp hx; exact e.symm⟩
  · exact List.all_eq_true.mpr fun x hx => (List.mem_replicate.mp hx).2
theorem range_getD {α : Type} (f : Nat → V) (ns : List Nat) (h : ∀ i, i < ns.length → f i = .int (ns.getD i 0 : Nat)) : (List.range ns.length).map f = IL ns := by
  refine List.ext_getElem? fun i => ?_
  by_cases hi : i < ns.length
  · rw [IL_get hi, List.getElem?_map, List.getElem?_range hi, ← h i hi]
    rfl
  · rw [List.getElem?_eq_none (by simp; omega), List.getElem?_eq_none (by rw [IL_len]; omega)]
theorem dpI {K : PySem.W.Frag} {H : Hp} : ∀ ns : List Nat, DpAll K H (IL ns) (ns.map fun n => .int (n : Nat))
  | [] => .nil
  | n :: ns => .cons (.int _) (dpI ns)
end LX

set_option Elab.async false
set_option linter.all false
set_option maxRecDepth 100000
set_option maxHeartbeats 4000000
namespace LX
open PySem PySem.Spec PyProof.Rows L2
def ID (ns : List Nat) : List PyData := ns.map fun n => .int (n : Nat)
theorem ID_lay : ∀ ns : List Nat, PyData.canLayAll0 (ID ns) = true
  | [] => rfl
  | n :: ns => by
    show (PyData.canLay0 (.int n) && PyData.canLayAll0 (ID ns)) = true
    rw [ID_lay ns]
    rfl
theorem ID_depth : ∀ ns : List Nat, PyData.depthAll (ID ns) ≤ 1
  | [] => by decide
  | n :: ns => by
    have := ID_depth ns
    show max (PyData.depth (.int n)) (PyData.depthAll (ID ns)) ≤ 1
    exact Nat.max_le.mpr ⟨by simp [PyData.depth], this⟩
theorem ID_eqv : ∀ ns : List Nat, PyData.eqvAll (ID ns) (ID ns) = true
  | [] => rfl
  | n :: ns => by
    show (PyData.eqv (.int n) (.int n) && PyData.eqvAll (ID ns) (ID ns)) = true
    rw [ID_eqv ns]
    show (((n : Nat) : Int) == ((n : Nat) : Int) && true) = true
    simp
theorem tup_shaped (ns : List Nat) : SeqAt.shaped (.tuple (ID ns)) = true := by
  have h1 := ID_lay ns
  have h2 := ID_depth ns
  show (PyData.canLayAll0 (ID ns) && decide (PyData.depthAll (ID ns) + 1 ≤ 64)) = true
  rw [h1, decide_eq_true (by omega)]
  rfl
theorem tup_eqv (ns : List Nat) : PyData.eqv (.tuple (ID ns)) (.tuple (ID ns)) = true := ID_eqv ns
theorem dp_tupI {K : PySem.W.Frag} {H : Hp} {p : Addr} {ns : List Nat} (h : H p = some (.tup (IL ns))) : Dp K H (.ref p) (.tuple (ID ns)) := .tup (SqT.of h) (dpI ns)
theorem ne_tups {K : PySem.W.Frag} {H : Hp} {p q : Addr} {ns : List Nat} {Q : VK} (h1 : H p = some (.tup (IL ns))) (h2 : H q = some (.tup (IL ns))) (k : Q (.bl false) H) : rNeD K (.ref p) (.ref q) H Q := by
  refine ⟨_, _, dp_tupI h1, dp_tupI h2, tup_shaped ns, tup_shaped ns, ?_⟩
  rw [tup_eqv]
  exact k
end LX

set_option Elab.async false
set_option linter.all false
set_option maxRecDepth 100000
set_option maxHeartbeats 4000000
namespace LX
open PySem PySem.Spec PyProof.Rows L2
mutual
theorem eqv_self : ∀ d : PyData, d.canLay0 = true → PyData.eqv d d = true
  | .none, _ => rfl
  | .bool b, _ => by show (b == b) = true; simp
  | .int i, _ => by show (i == i) = true; simp
  | .str x, _ => by show (x == x) = true; simp
  | .list xs, h => eqvAll_self xs h
  | .tuple xs, h => eqvAll_self xs h
  | .dict _, h => by simp [PyData.canLay0] at h
theorem eqvAll_self : ∀ ds : List PyData, PyData.canLayAll0 ds = true → PyData.eqvAll ds ds = true
  | [], _ => rfl
  | x :: xs, h => by
    have h' : x.canLay0 = true ∧ PyData.canLayAll0 xs = true := by simpa [PyData.canLayAll0] using h
    show (PyData.eqv x x && PyData.eqvAll xs xs) = true
    rw [eqv_self x h'.1, eqvAll_self xs h'.2]
    rfl
end
def IDi (ns : List Int) : List PyData := ns.map .int
theorem dpIi {K : PySem.W.Frag} {H : Hp} : ∀ ns : List Int, DpAll K H (ns.map V.int) (IDi ns)
  | [] => .nil
  | n :: ns => .cons (.int _) (dpIi ns)
theorem lay_all {ds : List PyData} (h : ∀ d ∈ ds, PyData.canLay0 d = true) : PyData.canLayAll0 ds = true := by
  induction ds with
  | nil => rfl
  | cons d ds ih =>
    show (PyData.canLay0 d && PyData.canLayAll0 ds) = true
    rw [h d List.mem_cons_self, ih fun x hx => h x (List.mem_cons_of_mem _ hx)]
    rfl
theorem depth_all {ds : List PyData} {n : Nat} (h : ∀ d ∈ ds, PyData.depth d ≤ n) : PyData.depthAll ds ≤ n := by
  induction ds with
  | nil => exact Nat.zero_le _
  | cons d ds ih => exact Nat.max_le.mpr ⟨h d List.mem_cons_self, ih fun x hx => h x (List.mem_cons_of_mem _ hx)⟩
theorem depth_int (i : Int) : PyData.depth (.int i) ≤ 1 := by simp [PyData.depth]
theorem IDi_lay (ns : List Int) : PyData.canLayAll0 (IDi ns) = true := lay_all fun d hd => by
  obtain ⟨i, _, rfl⟩ := List.mem_map.mp hd
  rfl
theorem IDi_depth (ns : List Int) : PyData.depthAll (IDi ns) ≤ 1 := depth_all fun d hd => by
  obtain ⟨i, _, rfl⟩ := List.mem_map.mp hd
  exact depth_int i
/-- a table as data -/
def RD (R : List (List Nat)) : List PyData := R.map fun r => .tuple (ID r)
theorem RD_lay (R : List (List Nat)) : PyData.canLayAll0 (RD R) = true := lay_all fun d hd => by
  obtain ⟨r, _, rfl⟩ := List.mem_map.mp hd
  exact ID_lay r
theorem RD_depth (R : List (List Nat)) : PyData.depthAll (RD R) ≤ 2 := depth_all fun d hd => by
  obtain ⟨r, _, rfl⟩ := List.mem_map.mp hd
  have := ID_depth r
  show PyData.depthAll (ID r) + 1 ≤ 2
  omega
theorem dpAll_of {K : PySem.W.Frag} {H : Hp} : ∀ {vs : List V} {ds : List PyData}, vs.length = ds.length → (∀ i, i < vs.length → Dp K H (vs.getD i .non) (ds.getD i .none)) → DpAll K H vs ds
  | [], [], _, _ => .nil
  | v :: vs, d :: ds, hl, h => .cons (h 0 (by simp)) (dpAll_of (by simpa using hl) fun i hi => h (i + 1) (by simpa using hi))
theorem dp_mat {K : PySem.W.Frag} {H : Hp} {p : Addr} {R : List (List Nat)} (m : Mat .tup .tup H p R) : Dp K H (.ref p) (.tuple (RD R)) := by
  obtain ⟨ps, h1, h2, h3⟩ := m
  refine .tup (SqT.of h1) (dpAll_of (by simp [RD, h2]) fun i hi => ?_)
  rw [refs_len] at hi
  rw [refs_getD hi]
  have e : (RD R).getD i .none = .tuple (ID (R.getD i [])) := by
    unfold RD
    rw [List.getD_eq_getElem?_getD, List.getElem?_map, List.getElem?_eq_getElem (by omega : i < R.length), List.getD_eq_getElem?_getD, List.getElem?_eq_getElem (by omega : i < R.length)]
    rfl
  rw [e]
  exact dp_tupI (h3 i (by omega))
theorem shaped_of {d : PyData} (h1 : d.canLay0 = true) (h2 : d.depth ≤ 64) : SeqAt.shaped d = true := by
  show (d.canLay0 && decide (d.depth ≤ 64)) = true
  rw [h1, decide_eq_true h2]
  rfl
end LX

set_option Elab.async false
set_option linter.all false
set_option maxRecDepth 100000
set_option maxHeartbeats 4000000
namespace LX
open PySem PySem.Spec PyProof.Rows L2
theorem app_left' {α : Type} {l m : List α} {d : α} {i : Nat} (h : i < l.length) : (l ++ m).getD i d = l.getD i d := by
  rw [List.getD_eq_getElem?_getD, List.getElem?_append_left h, ← List.getD_eq_getElem?_getD]
theorem app_end' {α : Type} {l : List α} {x d : α} {i : Nat} (h : l.length = i) : (l ++ [x]).getD i d = x := by
  subst h
  rw [List.getD_eq_getElem?_getD, List.getElem?_append_right (Nat.le_refl _), Nat.sub_self]
  rfl
/-- a table of lists, none of them at s -/
def MatN (s : Addr) (H : Hp) (p : Addr) (R : List (List Nat)) : Prop := p ≠ s ∧ ∃ ps : List Addr, H p = some (.lst (ps.map V.ref)) ∧ ps.length = R.length ∧ ∀ i, i < R.length → H (ps.getD i 0) = some (.lst (IL (R.getD i []))) ∧ ps.getD i 0 ≠ s
theorem MatN.mat {s p : Addr} {H : Hp} {R : List (List Nat)} (m : MatN s H p R) : Mat .lst .lst H p R := by
  obtain ⟨_, ps, h1, h2, h3⟩ := m
  exact ⟨ps, h1, h2, fun i hi => (h3 i hi).1⟩
theorem MatN.but {s p : Addr} {H H' : Hp} {R : List (List Nat)} (m : MatN s H p R) (b : But s H H') : MatN s H' p R := by
  obtain ⟨h0, ps, h1, h2, h3⟩ := m
  exact ⟨h0, ps, b _ _ h1 h0, h2, fun i hi => ⟨b _ _ (h3 i hi).1 (h3 i hi).2, (h3 i hi).2⟩⟩
theorem Mat.but {o u : List V → HO} {x p : Addr} {H H' : Hp} {R : List (List Nat)} (m : Mat o u H p R) (b : But x H H') (hp : p ≠ x) (hr : ∀ i, i < R.length → H x ≠ some (u (IL (R.getD i [])))) : Mat o u H' p R := by
  obtain ⟨ps, h1, h2, h3⟩ := m
  exact ⟨ps, b _ _ h1 hp, h2, fun i hi => b _ _ (h3 i hi) fun e => hr i hi (e ▸ h3 i hi)⟩
theorem Mat.new {o u : List V → HO} {x p : Addr} {H : Hp} {v : HO} {R : List (List Nat)} (m : Mat o u H p R) (hx : H x = none) : Mat o u (upd H x v) p R := m.same fun _ _ e => up_new hx e
theorem lst_ne_tup {a b : List V} : HO.lst a ≠ .tup b := fun e => by cases e
/-- a list of tuples gets one more -/
theorem Mat.push_tup {p q : Addr} {H : Hp} {R : List (List Nat)} {row : List Nat} (m : Mat .lst .tup H p R) (hq : H q = some (.tup (IL row))) : ∃ old : List V, H p = some (.lst old) ∧ old.length = R.length ∧ Mat .lst .tup (upd H p (.lst (old ++ [.ref q]))) p (R ++ [row]) := by
  obtain ⟨ps, h1, h2, h3⟩ := m
  refine ⟨_, h1, by rw [refs_len, h2], ps ++ [q], by rw [upd_same, List.map_append]; rfl, by rw [List.length_append, List.length_append, h2]; rfl, fun i hi => ?_⟩
  have ne : ∀ {a : Addr} {ys : List V}, H a = some (.tup ys) → a ≠ p := fun ha e => by
    rw [e, h1] at ha
    cases ha
  by_cases hlt : i < R.length
  · rw [app_left' (l := ps) (by omega), app_left' (l := R) hlt, upd_ne (ne (h3 i hlt))]
    exact h3 i hlt
  · have hi' : i = R.length := by
      rw [List.length_append] at hi
      have : i < R.length + 1 := hi
      omega
    subst hi'
    rw [app_end' (l := ps) h2, app_end' (l := R) rfl, upd_ne (ne hq)]
    exact hq
theorem ref_ne_IL {as : List Addr} {ms : List Nat} (h : as ≠ []) : (HO.lst (as.map V.ref)) ≠ .lst (IL ms) := fun e => by
  cases as with
  | nil => exact h rfl
  | cons a as =>
    cases ms with
    | nil => cases e
    | cons m ms => cases e
/-- a list of lists gets one more -/
theorem Mat.push_lst {p q : Addr} {H : Hp} {R : List (List Nat)} {row : List Nat} (m : Mat .lst .lst H p R) (hq : H q = some (.lst (IL row))) (qp : q ≠ p) (hr : ∀ i, i < R.length → R.getD i [] ≠ []) : ∃ old : List V, H p = some (.lst old) ∧ old.length = R.length ∧ Mat .lst .lst (upd H p (.lst (old ++ [.ref q]))) p (R ++ [row]) := by
  obtain ⟨ps, h1, h2, h3⟩ := m
  refine ⟨_, h1, by rw [refs_len, h2], ps ++ [q], by rw [upd_same, List.map_append]; rfl, by rw [List.length_append, List.length_append, h2]; rfl, fun i hi => ?_⟩
  by_cases hlt : i < R.length
  · rw [app_left' (l := ps) (by omega), app_left' (l := R) hlt]
    have ne : ps.getD i 0 ≠ p := fun e => by
      have := h3 i hlt
      rw [e, h1] at this
      have e2 := Option.some.inj this
      refine ref_ne_IL (as := ps) (fun z => ?_) e2
      rw [z] at h2
      simp at h2
      omega
    rw [upd_ne ne]
    exact h3 i hlt
  · have hi' : i = R.length := by
      rw [List.length_append] at hi
      have : i < R.length + 1 := hi
      omega
    subst hi'
    rw [app_end' (l := ps) h2, app_end' (l := R) rfl, upd_ne qp]
    exact hq
/-- the last list of a table gets one more number -/
theorem Mat.grow {p : Addr} {H : Hp} {T : List (List Nat)} {row : List Nat} {k j : Nat} (m : Mat .lst .lst H p (T ++ [row])) (hr : ∀ i, i < T.length → (T.getD i []).length = k) (hk : row.length < k) : ∃ (q : Addr) (xs : List V), H p = some (.lst xs) ∧ atI xs ((T.length : Nat) : Int) = some (.ref q) ∧ q ≠ p ∧ H q = some (.lst (IL row)) ∧ Mat .lst .lst (upd H q (.lst (IL row ++ [.int (j : Nat)]))) p (T ++ [row ++ [j]]) := by
  obtain ⟨ps, h1, h2, h3⟩ := m
  rw [List.length_append, List.length_singleton] at h2
  have hq := h3 T.length (by simp)
  rw [app_end' (l := T) rfl] at hq
  have qp : ps.getD T.length 0 ≠ p := fun e => by
    rw [e, h1] at hq
    refine ref_ne_IL (as := ps) (fun z => ?_) (Option.some.inj hq)
    rw [z] at h2
    simp at h2
  refine ⟨ps.getD T.length 0, _, h1, refs_at (by omega), qp, hq, ps, by rw [upd_ne qp.symm]; exact h1, by rw [List.length_append, h2]; rfl, fun i hi => ?_⟩
  rw [List.length_append, List.length_singleton] at hi
  by_cases hlt : i < T.length
  · rw [app_left' (l := T) hlt]
    have e := h3 i (by rw [List.length_append, List.length_singleton]; omega)
    rw [app_left' (l := T) hlt] at e
    have ne : ps.getD i 0 ≠ ps.getD T.length 0 := fun z => by
      rw [z, hq] at e
      have e2 := congrArg List.length (HO.lst.inj (Option.some.inj e))
      rw [IL_len, IL_len, hr i hlt] at e2
      omega
    rw [upd_ne ne]
    exact e
  · have hi' : i = T.length := by omega
    subst hi'
    rw [app_end' (l := T) rfl, upd_same, IL_app]
    rfl
/-! tuples of numbers as keys -/
def KL (x : List Nat) : List Key := x.map fun n => .inl ((n : Nat) : Int)
theorem KL_kV (x : List Nat) : (KL x).map kV = IL x := by
  unfold KL IL
  rw [List.map_map]
  rfl
theorem KL_inj : ∀ {x y : List Nat}, KL x = KL y → x = y
  | [], [], _ => rfl
  | [], _ :: _, h => by cases h
  | _ :: _, [], h => by cases h
  | a :: x, b :: y, h => by
    unfold KL at h
    rw [List.map_cons, List.map_cons] at h
    obtain ⟨h1, h2⟩ := List.cons.inj h
    have e : a = b := by
      have := Sum.inl.inj h1
      omega
    rw [e, KL_inj h2]
/-- a dict that tells the places of a list's tuples -/
def KnowsL (H : Hp) (d : Addr) (A : List (List Nat)) : Prop := ∃ kvs : List (List Key × V), H d = some (.dT kvs) ∧ kvs.length = A.length ∧ (∀ i x, A[i]? = some x → valV kvs (KL x) = some (.int (i : Nat))) ∧ ∀ x, x ∉ A → valV kvs (KL x) = none
theorem KnowsL.same {H H' : Hp} {d : Addr} {A : List (List Nat)} (h : KnowsL H d A) (s : Same H H') : KnowsL H' d A := by
  obtain ⟨kvs, h1, h2⟩ := h
  exact ⟨kvs, s _ _ h1, h2⟩
theorem KnowsL.but {H H' : Hp} {d x : Addr} {A : List (List Nat)} (h : KnowsL H d A) (b : But x H H') (n : d ≠ x) : KnowsL H' d A := by
  obtain ⟨kvs, h1, h2⟩ := h
  exact ⟨kvs, b _ _ h1 n, h2⟩
theorem KnowsL.get {H : Hp} {d b : Addr} {A : List (List Nat)} (h : KnowsL H d A) {i : Nat} {x : List Nat} (hb : H b = some (.tup (IL x))) (hx : A[i]? = some x) : DGet H d (.ref b) (some (.int (i : Nat))) := by
  obtain ⟨kvs, h1, _, h3, _⟩ := h
  rw [← h3 i x hx]
  exact .t h1 (by rw [KL_kV]; exact hb)
theorem KnowsL.no {H : Hp} {d b : Addr} {A : List (List Nat)} (h : KnowsL H d A) {x : List Nat} (hb : H b = some (.tup (IL x))) (hx : x ∉ A) : DGet H d (.ref b) none := by
  obtain ⟨kvs, h1, _, _, h4⟩ := h
  rw [← h4 x hx]
  exact .t h1 (by rw [KL_kV]; exact hb)
theorem KnowsL.put {H : Hp} {d b : Addr} {A : List (List Nat)} (h : KnowsL H d A) {x : List Nat} (hb : H b = some (.tup (IL x))) (hx : x ∉ A) (hl : A.length < sizeLine) : ∃ o : HO, DPut H d (.ref b) (.int (A.length : Nat)) (upd H d o) ∧ KnowsL (upd H d o) d (A ++ [x]) := by
  obtain ⟨kvs, h1, h2, h3, h4⟩ := h
  have hn := h4 x hx
  have len : (putK kvs (KL x) (.int (A.length : Nat))).length = A.length + 1 := by
    have hk : (kvs.any fun kv => decide (kv.1 = KL x)) = false := by
      rw [valV_any, hn]
      rfl
    unfold putK
    rw [hk, if_neg Bool.false_ne_true, List.length_append, h2]
    rfl
  refine ⟨_, DPut.t h1 (by rw [KL_kV]; exact hb) (by omega), _, upd_same, by rw [len, List.length_append]; rfl, fun i y hi => ?_, fun y hy => ?_⟩
  · rw [valV_put]
    by_cases hlt : i < A.length
    · rw [List.getElem?_append_left hlt] at hi
      rw [if_neg (fun e => hx (by have := KL_inj e; exact this ▸ List.mem_of_getElem? hi))]
      exact h3 i y hi
    · have e : i = A.length := by
        have := (List.getElem?_eq_some_iff.mp hi).1
        rw [List.length_append, List.length_singleton] at this
        omega
      subst e
      rw [List.getElem?_append_right (Nat.le_refl _), Nat.sub_self] at hi
      have e2 : x = y := by simpa using hi
      rw [if_pos (by rw [e2])]
  · rw [valV_put, if_neg (fun e => hy (by rw [KL_inj e]; exact List.mem_append_right _ List.mem_cons_self))]
    exact h4 y fun z => hy (List.mem_append_left _ z)
theorem units_suite {X : Cx} {a : Addr} {pn : List (Addr × Obj)} {n : Nat} (h : X.A.units + n < cLine) : (X.suite a pn).A.units + n < cLine := h
/-- a block within a block -/
theorem blkOk_nest {N N0 : List Str} {sc scope : Scope} {own : List (Str × Nat)} {nm : List (Str × NameKind)} (eN : N = N0) (en : sc.names = nm) (h : blkC N0 { kind := .function, names := nm, isGenerator := false, isCoroutine := false, more := [] } scope own = true) : BlkOk N sc scope own := by
  obtain ⟨h1, h2, h3, h4, h5⟩ := blkOk_by h
  subst eN
  exact ⟨h1, h2, h3, fun y hy e => by rw [en]; exact h4 y hy e, h5⟩
end LX

/-! tables of listed monoids: order, tree, left products -/
namespace M67
/-- how many numbers are met behind a row -/
def metRow (m : Nat) (row : List Nat) : Nat := row.foldl (fun m o => if o = m then m + 1 else m) m
/-- every entry of the row is met or the next one -/
def rowOk : Nat → List Nat → Bool
  | _, [] => true
  | m, o :: r => decide (o ≤ m) && rowOk (if o = m then m + 1 else m) r
/-- the order of a table: row by row from number n, m met -/
def order : Nat → Nat → List (List Nat) → Bool
  | _, _, [] => true
  | n, m, row :: rest => decide (n < m) && (rowOk m row && order (n + 1) (metRow m row) rest)
def metAll (m : Nat) (R : List (List Nat)) : Nat := R.foldl metRow m
theorem metRow_cons (m o : Nat) (r : List Nat) : metRow m (o :: r) = metRow (if o = m then m + 1 else m) r := rfl
theorem metRow_app (m : Nat) (a b : List Nat) : metRow m (a ++ b) = metRow (metRow m a) b := List.foldl_append
theorem rowOk_app : ∀ (a b : List Nat) (m : Nat), rowOk m (a ++ b) = (rowOk m a && rowOk (metRow m a) b)
  | [], b, m => by simp [rowOk, metRow]
  | o :: a, b, m => by
    rw [List.cons_append, metRow_cons]
    simp only [rowOk]
    rw [rowOk_app a b, Bool.and_assoc]
theorem order_app : ∀ (A B : List (List Nat)) (n m : Nat), order n m (A ++ B) = (order n m A && order (n + A.length) (metAll m A) B)
  | [], B, n, m => by simp [order, metAll]
  | r :: A, B, n, m => by
    rw [List.cons_append]
    simp only [order]
    rw [order_app A B]
    have e : n + 1 + A.length = n + (r :: A).length := by simp; omega
    rw [e]
    simp only [Bool.and_assoc]
    rfl
/-- the pairs (row, column) at which a number is met first -/
def treeRow (n : Nat) : Nat → Nat → List Nat → List (Nat × Nat)
  | _, _, [] => []
  | c, m, o :: r => if o = m then (n, c) :: treeRow n (c + 1) (m + 1) r else treeRow n (c + 1) m r
def treeAll : Nat → Nat → List (List Nat) → List (Nat × Nat)
  | _, _, [] => []
  | n, m, row :: rest => treeRow n 0 m row ++ treeAll (n + 1) (metRow m row) rest
theorem treeRow_len (n : Nat) : ∀ (r : List Nat) (c m : Nat), m + (treeRow n c m r).length = metRow m r
  | [], _, m => by simp [treeRow, metRow]
  | o :: r, c, m => by
    rw [metRow_cons]
    unfold treeRow
    by_cases h : o = m
    · rw [if_pos h, if_pos h, List.length_cons, ← treeRow_len n r (c + 1) (m + 1)]
      omega
    · rw [if_neg h, if_neg h, ← treeRow_len n r (c + 1) m]
theorem treeAll_len : ∀ (R : List (List Nat)) (n m : Nat), m + (treeAll n m R).length = metAll m R
  | [], _, m => by simp [treeAll, metAll]
  | row :: R, n, m => by
    show m + (treeRow n 0 m row ++ treeAll (n + 1) (metRow m row) R).length = metAll (metRow m row) R
    rw [List.length_append, ← treeAll_len R (n + 1) (metRow m row), ← treeRow_len n row 0 m]
    omega
/-- what stands in the tree: the j-th new number, met at its place -/
theorem treeRow_at (n : Nat) : ∀ (r : List Nat) (c m j : Nat) (a b : Nat), (treeRow n c m r)[j]? = some (a, b) → a = n ∧ c ≤ b ∧ r[b - c]? = some (m + j)
  | [], c, m, j, a, b, h => by simp [treeRow] at h
  | o :: r, c, m, j, a, b, h => by
    unfold treeRow at h
    by_cases e : o = m
    · rw [if_pos e] at h
      cases j with
      | zero =>
        simp at h
        obtain ⟨rfl, rfl⟩ := h
        exact ⟨rfl, Nat.le_refl _, by simp [e]⟩
      | succ j =>
        rw [List.getElem?_cons_succ] at h
        obtain ⟨h1, h2, h3⟩ := treeRow_at n r (c + 1) (m + 1) j a b h
        refine ⟨h1, by omega, ?_⟩
        have : b - c = (b - (c + 1)) + 1 := by omega
        rw [this, List.getElem?_cons_succ, h3]
        congr 1
        omega
    · rw [if_neg e] at h
      obtain ⟨h1, h2, h3⟩ := treeRow_at n r (c + 1) m j a b h
      refine ⟨h1, by omega, ?_⟩
      have : b - c = (b - (c + 1)) + 1 := by omega
      rw [this, List.getElem?_cons_succ, h3]
theorem metRow_le : ∀ (r : List Nat) (m : Nat), m ≤ metRow m r
  | [], m => Nat.le_refl _
  | o :: r, m => by
    rw [metRow_cons]
    by_cases h : o = m
    · rw [if_pos h]; exact Nat.le_trans (Nat.le_succ _) (metRow_le r _)
    · rw [if_neg h]; exact metRow_le r _
theorem treeAll_at : ∀ (R : List (List Nat)) (n m j a b : Nat), order n m R = true → (treeAll n m R)[j]? = some (a, b) → n ≤ a ∧ a < m + j ∧ ∃ row, R[a - n]? = some row ∧ row[b]? = some (m + j)
  | [], n, m, j, a, b, _, h => by simp [treeAll] at h
  | row :: R, n, m, j, a, b, ho, h => by
    simp only [order, Bool.and_eq_true, decide_eq_true_eq] at ho
    obtain ⟨hn, _, ho⟩ := ho
    have hl := treeRow_len n row 0 m
    unfold treeAll at h
    by_cases hj : j < (treeRow n 0 m row).length
    · rw [List.getElem?_append_left hj] at h
      obtain ⟨h1, _, h3⟩ := treeRow_at n row 0 m j a b h
      subst h1
      exact ⟨Nat.le_refl _, by omega, row, by simp, by simpa using h3⟩
    · rw [List.getElem?_append_right (by omega)] at h
      obtain ⟨h1, h2, row2, h3, h4⟩ := treeAll_at R (n + 1) (metRow m row) _ a b ho h
      refine ⟨by omega, by omega, row2, ?_, ?_⟩
      · have : a - n = (a - (n + 1)) + 1 := by omega
        rw [this, List.getElem?_cons_succ]
        exact h3
      · rw [h4]
        congr 1
        omega
/-! left products -/
def at2 (R : List (List Nat)) (i c : Nat) : Nat := (R.getD i []).getD c 0
/-- the lists found, one for each pair of the tree -/
def leftFrom (R : List (List Nat)) : List (List Nat) → List (Nat × Nat) → List (List Nat)
  | L, [] => L
  | L, (a, c) :: t => leftFrom R (L ++ [(L.getD a []).map fun x => at2 R x c]) t
def lefts (R : List (List Nat)) : List (List Nat) := leftFrom R [R.getD 0 []] (treeAll 0 1 R)
theorem leftFrom_len (R : List (List Nat)) : ∀ (t : List (Nat × Nat)) (L : List (List Nat)), (leftFrom R L t).length = L.length + t.length
  | [], L => by simp [leftFrom]
  | (a, c) :: t, L => by
    unfold leftFrom
    rw [leftFrom_len R t]
    simp
    omega
/-- a table of a listed monoid: k letters; the elements; products from the right by letters, from the left by letters, which go together -/
structure Listed (α : Type) (R : List (List Nat)) (k : Nat) (A : List α) (r l : Nat → α → α) (one : α) : Prop where
  len : A.length = R.length
  pos : 0 < R.length
  rows : ∀ (i : Nat) row, R[i]? = some row → row.length = k ∧ ∀ x ∈ row, x < R.length
  nd : ∀ (i j : Nat) x, A[i]? = some x → A[j]? = some x → i = j
  first : A[0]? = some one
  right : ∀ i c x, c < k → A[i]? = some x → A[at2 R i c]? = some (r c x)
  ord : order 0 1 R = true
  met : metAll 1 R = R.length
  start : ∀ c, c < k → r c one = l c one
  comm : ∀ c d x, r c (l d x) = l d (r c x)
section
variable {α : Type} {R : List (List Nat)} {k : Nat} {A : List α} {r l : Nat → α → α} {one : α}
theorem Listed.tree_len (T : Listed α R k A r l one) : (treeAll 0 1 R).length + 1 = R.length := by
  have := treeAll_len R 0 1
  rw [T.met] at this
  omega
theorem getD_of {β : Type} {L : List β} {i : Nat} {x d : β} (h : L[i]? = some x) : L.getD i d = x := by rw [List.getD_eq_getElem?_getD, h]; rfl
theorem Listed.row (T : Listed α R k A r l one) {i : Nat} (hi : i < R.length) : ∃ row, R[i]? = some row ∧ R.getD i [] = row ∧ row.length = k ∧ ∀ x ∈ row, x < R.length := by
  refine ⟨R[i], List.getElem?_eq_getElem hi, getD_of (List.getElem?_eq_getElem hi), T.rows i _ (List.getElem?_eq_getElem hi)⟩
theorem Listed.at2_lt (T : Listed α R k A r l one) {i c : Nat} (hi : i < R.length) (hc : c < k) : at2 R i c < R.length := by
  obtain ⟨row, _, e, hl, hx⟩ := T.row hi
  unfold at2
  rw [e, List.getD_eq_getElem?_getD, List.getElem?_eq_getElem (by omega)]
  exact hx _ (List.getElem_mem _)
/-- the lists so far: k long, the products of the letters from the left -/
def LeftOk (R : List (List Nat)) (k : Nat) (A : List α) (l : Nat → α → α) (L : List (List Nat)) : Prop := ∀ (j : Nat) row, L[j]? = some row → row.length = k ∧ ∀ d, d < k → ∃ x, A[j]? = some x ∧ row.getD d 0 < R.length ∧ A[row.getD d 0]? = some (l d x)
theorem Listed.step (T : Listed α R k A r l one) {L : List (List Nat)} (h : LeftOk R k A l L) {a c : Nat} (ha : a < L.length) (hc : c < k) (hL : L.length < R.length) (e : at2 R a c = L.length) (haR : a < R.length) : LeftOk R k A l (L ++ [(L.getD a []).map fun x => at2 R x c]) := by
  intro j row hj
  by_cases hlt : j < L.length
  · rw [List.getElem?_append_left hlt] at hj
    exact h j row hj
  · have hjl : j = L.length := by
      have := (List.getElem?_eq_some_iff.mp hj).1
      rw [List.length_append, List.length_singleton] at this
      omega
    subst hjl
    rw [List.getElem?_append_right (Nat.le_refl _), Nat.sub_self] at hj
    obtain rfl : (L.getD a []).map (fun x => at2 R x c) = row := by simpa using hj
    have ea : L[a]? = some (L.getD a []) := by rw [List.getElem?_eq_getElem ha, getD_of (List.getElem?_eq_getElem ha)]
    obtain ⟨hk, hd⟩ := h a _ ea
    refine ⟨by rw [List.length_map]; exact hk, fun d hdk => ?_⟩
    obtain ⟨x, hx, hlt2, hy⟩ := hd d hdk
    have er := T.right a c x hc hx
    rw [e] at er
    refine ⟨r c x, er, ?_⟩
    have g : ((L.getD a []).map fun x => at2 R x c).getD d 0 = at2 R ((L.getD a []).getD d 0) c := by
      have hd' : (L.getD a [])[d]? = some ((L.getD a []).getD d 0) := by
        have hl : d < (L.getD a []).length := by omega
        have q := List.getElem?_eq_getElem hl
        rw [q, getD_of q]
      rw [List.getD_eq_getElem?_getD, List.getElem?_map, hd']
      rfl
    rw [g]
    refine ⟨T.at2_lt hlt2 hc, ?_⟩
    rw [T.right _ c _ hc hy, T.comm]
theorem Listed.leftFrom_ok (T : Listed α R k A r l one) : ∀ (t : List (Nat × Nat)) (L : List (List Nat)), LeftOk R k A l L → L.length + t.length = R.length → (∀ j a b, t[j]? = some (a, b) → a < L.length + j ∧ b < k ∧ a < R.length ∧ at2 R a b = L.length + j) → LeftOk R k A l (leftFrom R L t)
  | [], L, h, _, _ => h
  | (a, c) :: t, L, h, hl, ht => by
    unfold leftFrom
    rw [List.length_cons] at hl
    obtain ⟨h1, h2, h3, h4⟩ := ht 0 a c rfl
    refine T.leftFrom_ok t _ (T.step h (by omega) h2 (by omega) (by omega) h3) (by simp; omega) fun j a' b' hj => ?_
    have := ht (j + 1) a' b' (by rw [List.getElem?_cons_succ]; exact hj)
    rw [List.length_append, List.length_singleton]
    omega
theorem Listed.tree_at (T : Listed α R k A r l one) {j a b : Nat} (h : (treeAll 0 1 R)[j]? = some (a, b)) : a < 1 + j ∧ b < k ∧ a < R.length ∧ at2 R a b = 1 + j := by
  obtain ⟨_, h2, row, h3, h4⟩ := treeAll_at R 0 1 j a b T.ord h
  have h3 : R[a]? = some row := by simpa using h3
  have ha := (List.getElem?_eq_some_iff.mp h3).1
  obtain ⟨hl, _⟩ := T.rows a row h3
  have hb := (List.getElem?_eq_some_iff.mp h4).1
  refine ⟨h2, by omega, ha, ?_⟩
  unfold at2
  rw [getD_of h3, getD_of h4]
theorem Listed.lefts_ok (T : Listed α R k A r l one) : LeftOk R k A l (lefts R) := by
  refine T.leftFrom_ok _ _ (fun j row hj => ?_) (by rw [List.length_singleton]; have := T.tree_len; omega) fun j a b h => ?_
  · have hj0 : j = 0 := by
      have := (List.getElem?_eq_some_iff.mp hj).1
      simp at this
      exact this
    subst hj0
    obtain ⟨row0, e0, e1, hl, hx⟩ := T.row T.pos
    obtain rfl : R.getD 0 [] = row := by simpa using hj
    rw [e1]
    refine ⟨hl, fun d hd => ⟨one, T.first, ?_⟩⟩
    have e2 : row0.getD d 0 = at2 R 0 d := by unfold at2; rw [e1]
    rw [e2]
    exact ⟨T.at2_lt T.pos hd, by rw [T.right 0 d one hd T.first, T.start d hd]⟩
  · rw [List.length_singleton]
    exact T.tree_at h
theorem Listed.lefts_len (T : Listed α R k A r l one) : (lefts R).length = R.length := by
  unfold lefts
  rw [leftFrom_len, List.length_singleton]
  have := T.tree_len
  omega
/-- the products: the left list of a right product is the right product of the left list -/
theorem Listed.products (T : Listed α R k A r l one) {i c : Nat} (hi : i < R.length) (hc : c < k) : (lefts R).getD (at2 R i c) [] = ((lefts R).getD i []).map fun x => at2 R x c := by
  have L := T.lefts_ok
  have len := T.lefts_len
  have hj := T.at2_lt hi hc
  have g : ∀ {j}, j < R.length → (lefts R)[j]? = some ((lefts R).getD j []) := fun {j} h => by rw [List.getElem?_eq_getElem (by omega), getD_of (List.getElem?_eq_getElem (by omega))]
  obtain ⟨k1, d1⟩ := L _ _ (g hj)
  obtain ⟨k2, d2⟩ := L _ _ (g hi)
  refine List.ext_getElem (by rw [List.length_map, k1, k2]) fun d h1 h2 => ?_
  have hd : d < k := by omega
  obtain ⟨x1, e1, lt1, y1⟩ := d1 d hd
  obtain ⟨x2, e2, lt2, y2⟩ := d2 d hd
  have er := T.right i c x2 hc e2
  have ex : x1 = r c x2 := Option.some.inj (e1.symm.trans er)
  have y3 := T.right _ c _ hc y2
  rw [T.comm, ← ex, ← y1] at y3
  have lt1' := (List.getElem?_eq_getElem (by rw [T.len]; exact lt1 : ((lefts R).getD (at2 R i c) []).getD d 0 < A.length))
  have e := T.nd _ _ _ (y3.trans lt1') lt1'
  rw [List.getElem_map]
  have g1 : ((lefts R).getD (at2 R i c) []).getD d 0 = ((lefts R).getD (at2 R i c) [])[d] := getD_of (List.getElem?_eq_getElem h1)
  have h2' : d < ((lefts R).getD i []).length := by rw [List.length_map] at h2; exact h2
  have g2 : ((lefts R).getD i []).getD d 0 = ((lefts R).getD i [])[d] := getD_of (List.getElem?_eq_getElem h2')
  rw [← g1, ← g2]
  exact e.symm
end
/-! splitting -/
theorem treeRow_app (n : Nat) : ∀ (a b : List Nat) (c m : Nat), treeRow n c m (a ++ b) = treeRow n c m a ++ treeRow n (c + a.length) (metRow m a) b
  | [], b, c, m => by simp [treeRow, metRow]
  | o :: a, b, c, m => by
    have e : c + 1 + a.length = c + (o :: a).length := by simp; omega
    rw [List.cons_append, metRow_cons]
    unfold treeRow
    by_cases h : o = m
    · rw [if_pos h, if_pos h, treeRow_app n a b, List.cons_append, e, if_pos h]
      cases b with
      | nil => rfl
      | cons x b => rfl
    · rw [if_neg h, if_neg h, treeRow_app n a b, e, if_neg h]
      cases b with
      | nil => rfl
      | cons x b => rfl
theorem treeAll_app : ∀ (A B : List (List Nat)) (n m : Nat), treeAll n m (A ++ B) = treeAll n m A ++ treeAll (n + A.length) (metAll m A) B
  | [], B, n, m => by simp [treeAll, metAll]
  | r :: A, B, n, m => by
    have e : n + 1 + A.length = n + (r :: A).length := by simp; omega
    show treeRow n 0 m r ++ treeAll (n + 1) (metRow m r) (A ++ B) = (treeRow n 0 m r ++ treeAll (n + 1) (metRow m r) A) ++ treeAll (n + (r :: A).length) (metAll (metRow m r) A) B
    rw [treeAll_app A B, List.append_assoc, e]
theorem metAll_le : ∀ (R : List (List Nat)) (m : Nat), m ≤ metAll m R
  | [], m => Nat.le_refl _
  | r :: R, m => Nat.le_trans (metRow_le r m) (metAll_le R (metRow m r))
theorem metAll_app (m : Nat) (A B : List (List Nat)) : metAll m (A ++ B) = metAll (metAll m A) B := List.foldl_append
theorem leftFrom_app (R : List (List Nat)) : ∀ (t s : List (Nat × Nat)) (L : List (List Nat)), leftFrom R L (t ++ s) = leftFrom R (leftFrom R L t) s
  | [], s, L => rfl
  | (a, c) :: t, s, L => leftFrom_app R t s _
theorem leftFrom_old (R : List (List Nat)) : ∀ (t : List (Nat × Nat)) (L : List (List Nat)) (i : Nat), i < L.length → (leftFrom R L t).getD i [] = L.getD i []
  | [], L, i, _ => rfl
  | (a, c) :: t, L, i, h => by
    unfold leftFrom
    rw [leftFrom_old R t _ i (by rw [List.length_append]; omega)]
    rw [List.getD_eq_getElem?_getD, List.getElem?_append_left h, ← List.getD_eq_getElem?_getD]
theorem Listed.leftFrom_ok_take {α : Type} {R : List (List Nat)} {k : Nat} {A : List α} {r l : Nat → α → α} {one : α} (T : Listed α R k A r l one) : ∀ j, j ≤ (treeAll 0 1 R).length → LeftOk R k A l (leftFrom R [R.getD 0 []] ((treeAll 0 1 R).take j))
  | 0, _ => by
    rw [List.take_zero]
    have h := T.lefts_ok
    intro i row hi
    have hi0 : i = 0 := by
      have := (List.getElem?_eq_some_iff.mp hi).1
      simp [leftFrom] at this
      exact this
    subst hi0
    obtain rfl : R.getD 0 [] = row := by simpa [leftFrom] using hi
    have e : (lefts R).getD 0 [] = R.getD 0 [] := leftFrom_old R _ _ 0 (by simp)
    have g : (lefts R)[0]? = some ((lefts R).getD 0 []) := by
      have q := List.getElem?_eq_getElem (l := lefts R) (i := 0) (by rw [T.lefts_len]; exact T.pos)
      rw [q, getD_of q]
    rw [e] at g
    exact h 0 _ g
  | j + 1, hj => by
    have ih := T.leftFrom_ok_take j (by omega)
    have lt : j < (treeAll 0 1 R).length := by omega
    have htj : (treeAll 0 1 R)[j]? = some (treeAll 0 1 R)[j] := List.getElem?_eq_getElem lt
    have e : (treeAll 0 1 R).take (j + 1) = (treeAll 0 1 R).take j ++ [(treeAll 0 1 R)[j]] := by rw [List.take_add_one, htj]; rfl
    rw [e, leftFrom_app]
    generalize (treeAll 0 1 R)[j] = ab at htj
    obtain ⟨a, b⟩ := ab
    obtain ⟨h1, h2, h3, h4⟩ := T.tree_at htj
    have tl := T.tree_len
    have len : (leftFrom R [R.getD 0 []] ((treeAll 0 1 R).take j)).length = 1 + j := by
      rw [leftFrom_len, List.length_take, List.length_singleton]
      omega
    exact T.step ih (by omega) h2 (by omega) (by omega) h3
end M67

set_option Elab.async false
set_option linter.all false
/-! closures listed in the order of their least words: their tables are tables of listed monoids -/
namespace M67
theorem order_snoc (T : List (List Nat)) (row : List Nat) : order 0 1 (T ++ [row]) = (order 0 1 T && (decide (T.length < metAll 1 T) && rowOk (metAll 1 T) row)) := by
  rw [order_app]
  simp [order]
theorem metAll_snoc (T : List (List Nat)) (row : List Nat) : metAll 1 (T ++ [row]) = metRow (metAll 1 T) row := by
  rw [metAll_app]
  rfl
theorem metRow_one (m j : Nat) : metRow m [j] = if j = m then m + 1 else m := rfl
structure Bfs (α : Type) (k : Nat) (r : Nat → α → α) (one : α) (A : List α) (T : List (List Nat)) : Prop where
  nd : A.Nodup
  first : A[0]? = some one
  rows : ∀ (i : Nat) row, T[i]? = some row → row.length = k ∧ ∀ c, c < k → ∃ x, A[i]? = some x ∧ A[row.getD c 0]? = some (r c x)
  ord : order 0 1 T = true
  met : metAll 1 T = A.length
structure BfsR (α : Type) (k : Nat) (r : Nat → α → α) (one : α) (A : List α) (T : List (List Nat)) (row : List Nat) : Prop where
  nd : A.Nodup
  first : A[0]? = some one
  lt : T.length < A.length
  rows : ∀ (i : Nat) row, T[i]? = some row → row.length = k ∧ ∀ c, c < k → ∃ x, A[i]? = some x ∧ A[row.getD c 0]? = some (r c x)
  cur : ∀ c, c < row.length → ∃ x, A[T.length]? = some x ∧ A[row.getD c 0]? = some (r c x)
  ord : order 0 1 (T ++ [row]) = true
  met : metAll 1 (T ++ [row]) = A.length
section
variable {α : Type} {k : Nat} {r : Nat → α → α} {one : α} {A : List α} {T : List (List Nat)} {row : List Nat}
theorem Bfs.init : Bfs α k r one [one] [] := ⟨by simp, rfl, fun i row h => by simp at h, rfl, rfl⟩
theorem Bfs.start (B : Bfs α k r one A T) (h : T.length < A.length) : BfsR α k r one A T [] :=
  ⟨B.nd, B.first, h, B.rows, fun c hc => absurd hc (Nat.not_lt_zero c), by rw [order_snoc, B.ord, B.met]; simp [rowOk, h], by rw [metAll_snoc]; exact B.met⟩
theorem snoc_getD {row : List Nat} {j c : Nat} (hc : c < (row ++ [j]).length) : (c < row.length ∧ (row ++ [j]).getD c 0 = row.getD c 0) ∨ (c = row.length ∧ (row ++ [j]).getD c 0 = j) := by
  by_cases h : c < row.length
  · refine .inl ⟨h, ?_⟩
    rw [List.getD_eq_getElem?_getD, List.getElem?_append_left h, ← List.getD_eq_getElem?_getD]
  · have e : c = row.length := by
      rw [List.length_append, List.length_singleton] at hc
      omega
    refine .inr ⟨e, ?_⟩
    rw [e, List.getD_eq_getElem?_getD, List.getElem?_append_right (Nat.le_refl _), Nat.sub_self]
    rfl
theorem BfsR.ord_push (B : BfsR α k r one A T row) {j : Nat} (hj : j ≤ A.length) : order 0 1 (T ++ [row ++ [j]]) = true := by
  have o := B.ord
  have m := B.met
  rw [metAll_snoc] at m
  rw [order_snoc, Bool.and_eq_true, Bool.and_eq_true] at o
  obtain ⟨o1, o2, o3⟩ := o
  rw [order_snoc, o1, o2, rowOk_app, o3, m]
  simp [rowOk, hj]
theorem BfsR.old (B : BfsR α k r one A T row) {x : α} {j : Nat} (hx : A[T.length]? = some x) (hj : A[j]? = some (r row.length x)) : BfsR α k r one A T (row ++ [j]) := by
  have lt := (List.getElem?_eq_some_iff.mp hj).1
  refine ⟨B.nd, B.first, B.lt, B.rows, fun c hc => ?_, B.ord_push (Nat.le_of_lt lt), ?_⟩
  · rcases snoc_getD hc with ⟨h, e⟩ | ⟨h, e⟩
    · rw [e]
      exact B.cur c h
    · rw [e, h]
      exact ⟨x, hx, hj⟩
  · have m := B.met
    rw [metAll_snoc] at m
    rw [metAll_snoc, metRow_app, m, metRow_one, if_neg (by omega)]
theorem get_snoc {A : List α} {y x : α} {i : Nat} (h : A[i]? = some x) : (A ++ [y])[i]? = some x := by
  rw [List.getElem?_append_left (List.getElem?_eq_some_iff.mp h).1]
  exact h
theorem get_last {A : List α} {y : α} : (A ++ [y])[A.length]? = some y := by
  rw [List.getElem?_append_right (Nat.le_refl _), Nat.sub_self]
  rfl
theorem BfsR.new (B : BfsR α k r one A T row) {x : α} (hx : A[T.length]? = some x) (hn : r row.length x ∉ A) : BfsR α k r one (A ++ [r row.length x]) T (row ++ [A.length]) := by
  refine ⟨?_, get_snoc B.first, by rw [List.length_append]; exact Nat.lt_add_right _ B.lt, fun i row' hi => ?_, fun c hc => ?_, B.ord_push (Nat.le_refl _), ?_⟩
  · rw [List.nodup_append]
    refine ⟨B.nd, by simp, fun a ha b hb => ?_⟩
    have : b = r row.length x := by simpa using hb
    rw [this]
    exact fun e => hn (e ▸ ha)
  · obtain ⟨h1, h2⟩ := B.rows i row' hi
    refine ⟨h1, fun c hc => ?_⟩
    obtain ⟨z, e1, e2⟩ := h2 c hc
    exact ⟨z, get_snoc e1, get_snoc e2⟩
  · rcases snoc_getD hc with ⟨h, e⟩ | ⟨h, e⟩
    · rw [e]
      obtain ⟨z, e1, e2⟩ := B.cur c h
      exact ⟨z, get_snoc e1, get_snoc e2⟩
    · rw [e, h]
      exact ⟨x, get_snoc hx, get_last⟩
  · have m := B.met
    rw [metAll_snoc] at m
    rw [metAll_snoc, metRow_app, m, metRow_one, if_pos rfl, List.length_append]
    rfl
theorem BfsR.done (B : BfsR α k r one A T row) (hk : row.length = k) : Bfs α k r one A (T ++ [row]) := by
  refine ⟨B.nd, B.first, fun i row' hi => ?_, B.ord, B.met⟩
  by_cases h : i < T.length
  · rw [List.getElem?_append_left h] at hi
    exact B.rows i row' hi
  · have e : i = T.length := by
      have := (List.getElem?_eq_some_iff.mp hi).1
      rw [List.length_append, List.length_singleton] at this
      omega
    subst e
    have e2 := Option.some.inj ((get_last (A := T) (y := row)).symm.trans hi)
    subst e2
    exact ⟨hk, fun c hc => B.cur c (by omega)⟩
theorem Bfs.lt (B : Bfs α k r one A T) {i : Nat} {row : List Nat} (h : T[i]? = some row) : ∀ x ∈ row, x < A.length := by
  intro x hx
  obtain ⟨c, hc, rfl⟩ := List.getElem_of_mem hx
  obtain ⟨h1, h2⟩ := B.rows i row h
  obtain ⟨z, _, e2⟩ := h2 c (by omega)
  rw [getD_of (List.getElem?_eq_getElem hc)] at e2
  exact (List.getElem?_eq_some_iff.mp e2).1
theorem nodup_inj {A : List α} (nd : A.Nodup) {i j : Nat} {x : α} (hi : A[i]? = some x) (hj : A[j]? = some x) : i = j := by
  have h1 := (List.getElem?_eq_some_iff.mp hi)
  have h2 := (List.getElem?_eq_some_iff.mp hj)
  exact (List.getElem_inj nd (h₀ := h1.1) (h₁ := h2.1)).mp (h1.2.trans h2.2.symm)
theorem Bfs.right (B : Bfs α k r one A T) {i c : Nat} {x : α} (ht : i < T.length) (hc : c < k) (hx : A[i]? = some x) : A[at2 T i c]? = some (r c x) := by
  have e := List.getElem?_eq_getElem ht
  obtain ⟨_, h2⟩ := B.rows i _ e
  obtain ⟨z, e1, e2⟩ := h2 c hc
  rw [hx] at e1
  cases e1
  unfold at2
  rw [getD_of e]
  exact e2
theorem Bfs.listed (B : Bfs α k r one A T) (len : T.length = A.length) {l : Nat → α → α} (start : ∀ c, c < k → r c one = l c one) (comm : ∀ c d x, r c (l d x) = l d (r c x)) : Listed α T k A r l one := by
  have p : 0 < A.length := (List.getElem?_eq_some_iff.mp B.first).1
  refine ⟨len.symm, by omega, fun i row h => ⟨(B.rows i row h).1, fun x hx => by rw [len]; exact B.lt h x hx⟩, fun i j x hi hj => nodup_inj B.nd hi hj, B.first, fun i c x hc hx => ?_, B.ord, by rw [B.met, len], start, comm⟩
  exact B.right (by rw [len]; exact (List.getElem?_eq_some_iff.mp hx).1) hc hx
/-- where words lead in the table -/
theorem Bfs.runs (B : Bfs α k r one A T) (len : T.length = A.length) : ∀ (w : List Nat) (i : Nat) (x : α), (∀ c ∈ w, c < k) → A[i]? = some x → A[w.foldl (fun q c => at2 T q c) i]? = some (w.foldl (fun x c => r c x) x)
  | [], i, x, _, h => h
  | c :: w, i, x, hc, h => B.runs len w _ _ (fun d hd => hc d (List.mem_cons_of_mem _ hd)) (B.right (by rw [len]; exact (List.getElem?_eq_some_iff.mp h).1) (hc c List.mem_cons_self) h)
end
/-! how many there are -/
theorem nodup_le {α : Type} [DecidableEq α] : ∀ (A B : List α), A.Nodup → (∀ x ∈ A, x ∈ B) → A.length ≤ B.length
  | [], B, _, _ => Nat.zero_le _
  | a :: A, B, nd, h => by
    rw [List.nodup_cons] at nd
    have hb : a ∈ B := h a List.mem_cons_self
    have ih := nodup_le A (B.erase a) nd.2 fun x hx => (List.mem_erase_of_ne (fun (e : x = a) => nd.1 (e ▸ hx))).mpr (h x (List.mem_cons_of_mem _ hx))
    rw [List.length_erase_of_mem hb] at ih
    have : 0 < B.length := List.length_pos_of_mem hb
    rw [List.length_cons]
    omega
def allL (n : Nat) : Nat → List (List Nat)
  | 0 => [[]]
  | m + 1 => (List.range n).flatMap fun a => (allL n m).map (a :: ·)
theorem allL_mem (n : Nat) : ∀ (m : Nat) (x : List Nat), x.length = m → (∀ y ∈ x, y < n) → x ∈ allL n m
  | 0, x, h, _ => by
    rw [List.length_eq_zero_iff] at h
    subst h
    simp [allL]
  | m + 1, [], h, _ => by simp at h
  | m + 1, a :: x, h, hn => by
    unfold allL
    refine List.mem_flatMap.mpr ⟨a, List.mem_range.mpr (hn a List.mem_cons_self), List.mem_map.mpr ⟨x, allL_mem n m x (by simpa using h) fun y hy => hn y (List.mem_cons_of_mem _ hy), rfl⟩⟩
theorem flatMap_len {α β : Type} (f : α → List β) (c : Nat) : ∀ l : List α, (∀ a ∈ l, (f a).length = c) → (l.flatMap f).length = l.length * c
  | [], _ => by simp
  | a :: l, h => by
    rw [List.flatMap_cons, List.length_append, h a List.mem_cons_self, flatMap_len f c l fun b hb => h b (List.mem_cons_of_mem _ hb), List.length_cons, Nat.add_mul, Nat.one_mul, Nat.add_comm]
theorem allL_len (n : Nat) : ∀ m, (allL n m).length = n ^ m
  | 0 => rfl
  | m + 1 => by
    unfold allL
    rw [flatMap_len _ (n ^ m) _ fun a _ => by rw [List.length_map, allL_len n m], List.length_range, Nat.pow_succ, Nat.mul_comm]
theorem count_le {A : List (List Nat)} {n m : Nat} (nd : A.Nodup) (h : ∀ x ∈ A, x.length = m ∧ ∀ y ∈ x, y < n) : A.length ≤ n ^ m := by
  rw [← allL_len n m]
  exact nodup_le A _ nd fun x hx => allL_mem n m x (h x hx).1 (h x hx).2
/-! what words do with states -/
/-- a letter: behind a map, ahead of a map -/
def stepF (R : List (List Nat)) (c q : Nat) : Nat := if q < R.length then at2 R q c else q
def actR (R : List (List Nat)) (c : Nat) (x : List Nat) : List Nat := x.map (stepF R c)
def actL (R : List (List Nat)) (c : Nat) (x : List Nat) : List Nat := (List.range R.length).map fun s => x.getD (at2 R s c) R.length
theorem stepF_out (R : List (List Nat)) (c : Nat) : stepF R c R.length = R.length := if_neg (Nat.lt_irrefl _)
theorem map_getD_fix (f : Nat → Nat) (d : Nat) (hd : f d = d) (x : List Nat) (i : Nat) : (x.map f).getD i d = f (x.getD i d) := by
  rw [List.getD_eq_getElem?_getD, List.getElem?_map, List.getD_eq_getElem?_getD]
  cases x[i]? with
  | none => exact hd.symm
  | some y => rfl
theorem act_comm (R : List (List Nat)) (c d : Nat) (x : List Nat) : actR R c (actL R d x) = actL R d (actR R c x) := by
  unfold actR actL
  rw [List.map_map]
  refine List.map_congr_left fun s _ => ?_
  exact (map_getD_fix _ _ (stepF_out R c) x _).symm
theorem range_getD_self {n i : Nat} (d : Nat) (h : i < n) : (List.range n).getD i d = i := by
  rw [List.getD_eq_getElem?_getD, List.getElem?_range h]
  rfl
theorem act_start {R : List (List Nat)} {c : Nat} (h : ∀ q, q < R.length → at2 R q c < R.length) : actR R c (List.range R.length) = actL R c (List.range R.length) := by
  unfold actR actL
  refine List.map_congr_left fun s hs => ?_
  have hs := List.mem_range.mp hs
  rw [range_getD_self _ (h s hs)]
  exact if_pos hs
theorem act_run (R : List (List Nat)) : ∀ (w : List Nat) (x : List Nat) (s : Nat), (w.foldl (fun x c => actR R c x) x).getD s R.length = w.foldl (fun q c => stepF R c q) (x.getD s R.length)
  | [], x, s => rfl
  | c :: w, x, s => by
    rw [List.foldl_cons, List.foldl_cons, act_run R w]
    congr 1
    exact map_getD_fix _ _ (stepF_out R c) x s
theorem step_run {R : List (List Nat)} {k : Nat} (h : ∀ q c, q < R.length → c < k → at2 R q c < R.length) : ∀ (w : List Nat) (s : Nat), s < R.length → (∀ c ∈ w, c < k) → w.foldl (fun q c => stepF R c q) s = w.foldl (fun q c => at2 R q c) s
  | [], s, _, _ => rfl
  | c :: w, s, hs, hc => by
    rw [List.foldl_cons, List.foldl_cons]
    have e : stepF R c s = at2 R s c := if_pos hs
    rw [e]
    exact step_run h w _ (h s c hs (hc c List.mem_cons_self)) fun d hd => hc d (List.mem_cons_of_mem _ hd)
end M67

set_option Elab.async false
set_option linter.all false
set_option maxRecDepth 100000
set_option maxHeartbeats 4000000
namespace K67
open PySem PySem.Spec PyProof.Rows L2 LX
def topS (i : Nat) : Stmt := PySem.Challenge.pw_letterfolds_k67_words_that_things_have.main.body.getD i (.Pass ⟨0, 0, 0, 0⟩)
abbrev s_NoWord_init : Stmt := inClass (topS 4) 0
theorem sc_NoWord_init : FnScope ["self", "word"] ["self", "word"] (defScope s_NoWord_init) := ⟨rfl, rfl, rfl, by decide +kernel, rfl, by decide +kernel, by decide +kernel⟩
abbrev s_NoWord_told : Stmt := inClass (topS 4) 1
theorem sc_NoWord_told : FnScope ["self"] ["self"] (defScope s_NoWord_told) := ⟨rfl, rfl, rfl, by decide +kernel, rfl, by decide +kernel, by decide +kernel⟩
abbrev s_Fact_eq : Stmt := inClass (topS 9) 1
theorem sc_Fact_eq : FnScope ["self", "other"] ["self", "other"] (defScope s_Fact_eq) := ⟨rfl, rfl, rfl, by decide +kernel, rfl, by decide +kernel, by decide +kernel⟩
abbrev s_is_number : Stmt := topS 10
theorem sc_is_number : FnScope ["thing"] ["thing"] (defScope s_is_number) := ⟨rfl, rfl, rfl, by decide +kernel, rfl, by decide +kernel, by decide +kernel⟩
abbrev s_is_sequence : Stmt := topS 11
theorem sc_is_sequence : FnScope ["thing"] ["thing"] (defScope s_is_sequence) := ⟨rfl, rfl, rfl, by decide +kernel, rfl, by decide +kernel, by decide +kernel⟩
abbrev s_check_form : Stmt := topS 16
theorem sc_check_form : FnScope ["right", "place", "row", "number"] ["right"] (defScope s_check_form) := ⟨rfl, rfl, rfl, by decide +kernel, rfl, by decide +kernel, by decide +kernel⟩
abbrev s_check_order : Stmt := topS 17
theorem sc_check_order : FnScope ["right", "met", "number", "row", "other"] ["right"] (defScope s_check_order) := ⟨rfl, rfl, rfl, by decide +kernel, rfl, by decide +kernel, by decide +kernel⟩
abbrev s_tree_of : Stmt := topS 18
theorem sc_tree_of : FnScope ["right", "found", "number", "row", "letter", "other"] ["right"] (defScope s_tree_of) := ⟨rfl, rfl, rfl, by decide +kernel, rfl, by decide +kernel, by decide +kernel⟩
abbrev s_left_of : Stmt := topS 19
theorem sc_left_of : FnScope ["right", "tree", "found", "ahead", "letter", "number"] ["right", "tree"] (defScope s_left_of) := ⟨rfl, rfl, rfl, by decide +kernel, rfl, by decide +kernel, by decide +kernel⟩
abbrev s_check_products : Stmt := topS 20
theorem sc_check_products : FnScope ["right", "left", "number", "row", "letter", "other", "one"] ["right", "left"] (defScope s_check_products) := ⟨rfl, rfl, rfl, by decide +kernel, rfl, by decide +kernel, by decide +kernel⟩
abbrev s_Monoid_init : Stmt := inClass (topS 21) 0
theorem sc_Monoid_init : FnScope ["self", "right", "rows", "row"] ["self", "right"] (defScope s_Monoid_init) := ⟨rfl, rfl, rfl, by decide +kernel, rfl, by decide +kernel, by decide +kernel⟩
abbrev s_checked : Stmt := topS 22
theorem sc_checked : FnScope ["monoid"] ["monoid"] (defScope s_checked) := ⟨rfl, rfl, rfl, by decide +kernel, rfl, by decide +kernel, by decide +kernel⟩
abbrev s_is_below : Stmt := topS 28
theorem sc_is_below : FnScope ["thing", "many"] ["thing", "many"] (defScope s_is_below) := ⟨rfl, rfl, rfl, by decide +kernel, rfl, by decide +kernel, by decide +kernel⟩
abbrev s_check_rows : Stmt := topS 29
theorem sc_check_rows : FnScope ["rows", "row", "state"] ["rows"] (defScope s_check_rows) := ⟨rfl, rfl, rfl, by decide +kernel, rfl, by decide +kernel, by decide +kernel⟩
abbrev s_Automaton_init : Stmt := inClass (topS 30) 0
theorem sc_Automaton_init : FnScope ["self", "rows", "start", "accepted", "state"] ["self", "rows", "start", "accepted"] (defScope s_Automaton_init) := ⟨rfl, rfl, rfl, by decide +kernel, rfl, by decide +kernel, by decide +kernel⟩
abbrev s_Automaton_settle : Stmt := inClass (topS 30) 1
theorem sc_Automaton_settle : FnScope ["self", "rows", "start", "accepted", "row"] ["self", "rows", "start", "accepted"] (defScope s_Automaton_settle) := ⟨rfl, rfl, rfl, by decide +kernel, rfl, by decide +kernel, by decide +kernel⟩
abbrev s_Automaton_facts : Stmt := inClass (topS 30) 2
theorem sc_Automaton_facts : FnScope ["self"] ["self"] (defScope s_Automaton_facts) := ⟨rfl, rfl, rfl, by decide +kernel, rfl, by decide +kernel, by decide +kernel⟩
abbrev s_Language_init : Stmt := inClass (topS 31) 0
theorem sc_Language_init : FnScope ["self", "monoid", "accepted", "right", "number"] ["self", "monoid", "accepted"] (defScope s_Language_init) := ⟨rfl, rfl, rfl, by decide +kernel, rfl, by decide +kernel, by decide +kernel⟩
abbrev s_table_of : Stmt := topS 32
theorem sc_table_of : FnScope ["thing"] ["thing"] (defScope s_table_of) := ⟨rfl, rfl, rfl, by decide +kernel, rfl, by decide +kernel, by decide +kernel⟩
abbrev s_check_word : Stmt := topS 33
theorem sc_check_word : FnScope ["word", "letters", "most", "one"] ["word", "letters", "most"] (defScope s_check_word) := ⟨rfl, rfl, rfl, by decide +kernel, rfl, by decide +kernel, by decide +kernel⟩
abbrev s_accepts : Stmt := topS 34
theorem sc_accepts : FnScope ["thing", "word", "one", "rows", "state", "accepted"] ["thing", "word"] (defScope s_accepts) := ⟨rfl, rfl, rfl, by decide +kernel, rfl, by decide +kernel, by decide +kernel⟩
abbrev s__law_source : Stmt := topS 36
theorem sc__law_source : FnScope ["_law_cell"] ["_law_cell"] (defScope s__law_source) := ⟨rfl, rfl, rfl, by decide +kernel, rfl, by decide +kernel, by decide +kernel⟩
abbrev s__law_draw : Stmt := topS 37
theorem sc__law_draw : FnScope ["_law_source_here", "_law_many", "_law_mixed", "_law_digit"] ["_law_source_here", "_law_many"] (defScope s__law_draw) := ⟨rfl, rfl, rfl, by decide +kernel, rfl, by decide +kernel, by decide +kernel⟩
abbrev s__law_pick : Stmt := topS 38
theorem sc__law_pick : FnScope ["_law_source_here", "_law_some"] ["_law_source_here", "_law_some"] (defScope s__law_pick) := ⟨rfl, rfl, rfl, by decide +kernel, rfl, by decide +kernel, by decide +kernel⟩
abbrev s__law_moves : Stmt := topS 39
theorem sc__law_moves : FnScope ["_law_source_here", "_law_many", "_law_letters", "_law_letter", "_law_way", "_law_columns_so", "_law_goals", "_law_state", "_law_rest", "_law_goal"] ["_law_source_here", "_law_many", "_law_letters"] (defScope s__law_moves) := ⟨rfl, rfl, rfl, by decide +kernel, rfl, by decide +kernel, by decide +kernel⟩
abbrev s__law_plan : Stmt := topS 40
theorem sc__law_plan : FnScope ["_law_source_here", "_law_most", "_law_moves_here", "_law_marked", "_law_many", "_law_letters", "_law_state"] ["_law_source_here", "_law_most"] (defScope s__law_plan) := ⟨rfl, rfl, rfl, by decide +kernel, rfl, by decide +kernel, by decide +kernel⟩
abbrev s__law_all_words : Stmt := topS 41
theorem sc__law_all_words : FnScope ["_law_letters", "_law_most", "_law_turn", "_law_found", "_law_ends", "_law_later", "_law_word", "_law_sign"] ["_law_letters", "_law_most"] (defScope s__law_all_words) := ⟨rfl, rfl, rfl, by decide +kernel, rfl, by decide +kernel, by decide +kernel⟩
abbrev s__law_led : Stmt := topS 42
theorem sc__law_led : FnScope ["_law_plan_here", "_law_word", "_law_sign", "_law_moves_here", "_law_state", "_law_marked"] ["_law_plan_here", "_law_word"] (defScope s__law_led) := ⟨rfl, rfl, rfl, by decide +kernel, rfl, by decide +kernel, by decide +kernel⟩
abbrev s__law_has : Stmt := topS 43
theorem sc__law_has : FnScope ["_law_plan_here", "_law_word"] ["_law_plan_here", "_law_word"] (defScope s__law_has) := ⟨rfl, rfl, rfl, by decide +kernel, rfl, by decide +kernel, by decide +kernel⟩
abbrev s__law_acts : Stmt := topS 44
theorem sc__law_acts : FnScope ["_law_moves_here", "_law_first", "_law_acts_here", "_law_words_so", "_law_known", "_law_table", "_law_at", "_law_letter", "_law_later", "_law_state"] ["_law_moves_here"] (defScope s__law_acts) := ⟨rfl, rfl, rfl, by decide +kernel, rfl, by decide +kernel, by decide +kernel⟩
abbrev s__law_refused : Stmt := topS 45
theorem sc__law_refused : FnScope ["_law_thing", "_law_word", "e"] ["_law_thing", "_law_word"] (defScope s__law_refused) := ⟨rfl, rfl, rfl, by decide +kernel, rfl, by decide +kernel, by decide +kernel⟩
abbrev s__law_right : Stmt := topS 46
theorem sc__law_right : FnScope ["_law_source_here", "_law_plan_here", "_law_letters", "_law_long_ones", "_law_thing", "_law_moves_here", "_law_first", "_law_marked", "_law_one", "_law_things", "_law_acts_here", "_law_words_so", "_law_table", "_law_word", "_law_odd", "_law_many", "_law_turn", "_law_k", "_law_act"] ["_law_source_here"] (defScope s__law_right) := ⟨rfl, rfl, rfl, by decide +kernel, rfl, by decide +kernel, by decide +kernel⟩
abbrev s_law : Stmt := topS 47
theorem sc_law : FnScope ["_law_script", "_law_cell", "_law_source_here"] ["_law_script"] (defScope s_law) := ⟨rfl, rfl, rfl, by decide +kernel, rfl, by decide +kernel, by decide +kernel⟩
structure Gx where
  K : PySem.W.Frag
  mg : Str → Option Value
  f_NoWord_init : Addr
  d_NoWord_init : FuncData
  f_NoWord_told : Addr
  d_NoWord_told : FuncData
  f_Fact_eq : Addr
  d_Fact_eq : FuncData
  f_is_number : Addr
  d_is_number : FuncData
  f_is_sequence : Addr
  d_is_sequence : FuncData
  f_check_form : Addr
  d_check_form : FuncData
  f_check_order : Addr
  d_check_order : FuncData
  f_tree_of : Addr
  d_tree_of : FuncData
  f_left_of : Addr
  d_left_of : FuncData
  f_check_products : Addr
  d_check_products : FuncData
  f_Monoid_init : Addr
  d_Monoid_init : FuncData
  f_checked : Addr
  d_checked : FuncData
  f_is_below : Addr
  d_is_below : FuncData
  f_check_rows : Addr
  d_check_rows : FuncData
  f_Automaton_init : Addr
  d_Automaton_init : FuncData
  f_Automaton_settle : Addr
  d_Automaton_settle : FuncData
  f_Automaton_facts : Addr
  d_Automaton_facts : FuncData
  f_Language_init : Addr
  d_Language_init : FuncData
  f_table_of : Addr
  d_table_of : FuncData
  f_check_word : Addr
  d_check_word : FuncData
  f_accepts : Addr
  d_accepts : FuncData
  f__law_source : Addr
  d__law_source : FuncData
  f__law_draw : Addr
  d__law_draw : FuncData
  f__law_pick : Addr
  d__law_pick : FuncData
  f__law_moves : Addr
  d__law_moves : FuncData
  f__law_plan : Addr
  d__law_plan : FuncData
  f__law_all_words : Addr
  d__law_all_words : FuncData
  f__law_led : Addr
  d__law_led : FuncData
  f__law_has : Addr
  d__law_has : FuncData
  f__law_acts : Addr
  d__law_acts : FuncData
  f__law_refused : Addr
  d__law_refused : FuncData
  f__law_right : Addr
  d__law_right : FuncData
  f_law : Addr
  d_law : FuncData
  c_Fact : Addr
  c_Monoid : Addr
  c_Automaton : Addr
  c_Language : Addr
  c_NoWord : Addr
  c_FoldError : Addr
structure Txt (G : Gx) : Prop where
  F_NoWord_init : Fun G.K "__init__" "NoWord.__init__" s_NoWord_init G.f_NoWord_init G.d_NoWord_init
  b_NoWord_init : Binds G.K G.d_NoWord_init ["self", "word"] []
  F_NoWord_told : Fun G.K "told" "NoWord.told" s_NoWord_told G.f_NoWord_told G.d_NoWord_told
  b_NoWord_told : Binds G.K G.d_NoWord_told ["self"] []
  xm_NoWord_told : XMeth G.K G.c_NoWord "told" G.f_NoWord_told
  F_Fact_eq : Fun G.K "__eq__" "Fact.__eq__" s_Fact_eq G.f_Fact_eq G.d_Fact_eq
  b_Fact_eq : Binds G.K G.d_Fact_eq ["self", "other"] []
  m_Fact_eq : Meth G.K G.c_Fact "__eq__" G.f_Fact_eq
  F_is_number : Fun G.K "is_number" "is_number" s_is_number G.f_is_number G.d_is_number
  b_is_number : Binds G.K G.d_is_number ["thing"] []
  g_is_number : G.mg "is_number" = some (.ref G.f_is_number)
  F_is_sequence : Fun G.K "is_sequence" "is_sequence" s_is_sequence G.f_is_sequence G.d_is_sequence
  b_is_sequence : Binds G.K G.d_is_sequence ["thing"] []
  g_is_sequence : G.mg "is_sequence" = some (.ref G.f_is_sequence)
  F_check_form : Fun G.K "check_form" "check_form" s_check_form G.f_check_form G.d_check_form
  b_check_form : Binds G.K G.d_check_form ["right"] []
  g_check_form : G.mg "check_form" = some (.ref G.f_check_form)
  F_check_order : Fun G.K "check_order" "check_order" s_check_order G.f_check_order G.d_check_order
  b_check_order : Binds G.K G.d_check_order ["right"] []
  g_check_order : G.mg "check_order" = some (.ref G.f_check_order)
  F_tree_of : Fun G.K "tree_of" "tree_of" s_tree_of G.f_tree_of G.d_tree_of
  b_tree_of : Binds G.K G.d_tree_of ["right"] []
  g_tree_of : G.mg "tree_of" = some (.ref G.f_tree_of)
  F_left_of : Fun G.K "left_of" "left_of" s_left_of G.f_left_of G.d_left_of
  b_left_of : Binds G.K G.d_left_of ["right", "tree"] []
  g_left_of : G.mg "left_of" = some (.ref G.f_left_of)
  F_check_products : Fun G.K "check_products" "check_products" s_check_products G.f_check_products G.d_check_products
  b_check_products : Binds G.K G.d_check_products ["right", "left"] []
  g_check_products : G.mg "check_products" = some (.ref G.f_check_products)
  F_Monoid_init : Fun G.K "__init__" "Monoid.__init__" s_Monoid_init G.f_Monoid_init G.d_Monoid_init
  b_Monoid_init : Binds G.K G.d_Monoid_init ["self", "right"] []
  F_checked : Fun G.K "checked" "checked" s_checked G.f_checked G.d_checked
  b_checked : Binds G.K G.d_checked ["monoid"] []
  g_checked : G.mg "checked" = some (.ref G.f_checked)
  F_is_below : Fun G.K "is_below" "is_below" s_is_below G.f_is_below G.d_is_below
  b_is_below : Binds G.K G.d_is_below ["thing", "many"] []
  g_is_below : G.mg "is_below" = some (.ref G.f_is_below)
  F_check_rows : Fun G.K "check_rows" "check_rows" s_check_rows G.f_check_rows G.d_check_rows
  b_check_rows : Binds G.K G.d_check_rows ["rows"] []
  g_check_rows : G.mg "check_rows" = some (.ref G.f_check_rows)
  F_Automaton_init : Fun G.K "__init__" "Automaton.__init__" s_Automaton_init G.f_Automaton_init G.d_Automaton_init
  b_Automaton_init : Binds G.K G.d_Automaton_init ["self", "rows", "start", "accepted"] []
  F_Automaton_settle : Fun G.K "settle" "Automaton.settle" s_Automaton_settle G.f_Automaton_settle G.d_Automaton_settle
  b_Automaton_settle : Binds G.K G.d_Automaton_settle ["self", "rows", "start", "accepted"] []
  m_Automaton_settle : Meth G.K G.c_Automaton "settle" G.f_Automaton_settle
  F_Automaton_facts : Fun G.K "facts" "Automaton.facts" s_Automaton_facts G.f_Automaton_facts G.d_Automaton_facts
  b_Automaton_facts : Binds G.K G.d_Automaton_facts ["self"] []
  m_Automaton_facts : Meth G.K G.c_Automaton "facts" G.f_Automaton_facts
  F_Language_init : Fun G.K "__init__" "Language.__init__" s_Language_init G.f_Language_init G.d_Language_init
  b_Language_init : Binds G.K G.d_Language_init ["self", "monoid", "accepted"] []
  F_table_of : Fun G.K "table_of" "table_of" s_table_of G.f_table_of G.d_table_of
  b_table_of : Binds G.K G.d_table_of ["thing"] []
  g_table_of : G.mg "table_of" = some (.ref G.f_table_of)
  F_check_word : Fun G.K "check_word" "check_word" s_check_word G.f_check_word G.d_check_word
  b_check_word : Binds G.K G.d_check_word ["word", "letters", "most"] []
  g_check_word : G.mg "check_word" = some (.ref G.f_check_word)
  F_accepts : Fun G.K "accepts" "accepts" s_accepts G.f_accepts G.d_accepts
  b_accepts : Binds G.K G.d_accepts ["thing", "word"] []
  g_accepts : G.mg "accepts" = some (.ref G.f_accepts)
  F__law_source : Fun G.K "_law_source" "_law_source" s__law_source G.f__law_source G.d__law_source
  b__law_source : Binds G.K G.d__law_source ["_law_cell"] []
  g__law_source : G.mg "_law_source" = some (.ref G.f__law_source)
  F__law_draw : Fun G.K "_law_draw" "_law_draw" s__law_draw G.f__law_draw G.d__law_draw
  b__law_draw : Binds G.K G.d__law_draw ["_law_source_here", "_law_many"] []
  g__law_draw : G.mg "_law_draw" = some (.ref G.f__law_draw)
  F__law_pick : Fun G.K "_law_pick" "_law_pick" s__law_pick G.f__law_pick G.d__law_pick
  b__law_pick : Binds G.K G.d__law_pick ["_law_source_here", "_law_some"] []
  g__law_pick : G.mg "_law_pick" = some (.ref G.f__law_pick)
  F__law_moves : Fun G.K "_law_moves" "_law_moves" s__law_moves G.f__law_moves G.d__law_moves
  b__law_moves : Binds G.K G.d__law_moves ["_law_source_here", "_law_many", "_law_letters"] []
  g__law_moves : G.mg "_law_moves" = some (.ref G.f__law_moves)
  F__law_plan : Fun G.K "_law_plan" "_law_plan" s__law_plan G.f__law_plan G.d__law_plan
  b__law_plan : Binds G.K G.d__law_plan ["_law_source_here", "_law_most"] []
  g__law_plan : G.mg "_law_plan" = some (.ref G.f__law_plan)
  F__law_all_words : Fun G.K "_law_all_words" "_law_all_words" s__law_all_words G.f__law_all_words G.d__law_all_words
  b__law_all_words : Binds G.K G.d__law_all_words ["_law_letters", "_law_most"] []
  g__law_all_words : G.mg "_law_all_words" = some (.ref G.f__law_all_words)
  F__law_led : Fun G.K "_law_led" "_law_led" s__law_led G.f__law_led G.d__law_led
  b__law_led : Binds G.K G.d__law_led ["_law_plan_here", "_law_word"] []
  g__law_led : G.mg "_law_led" = some (.ref G.f__law_led)
  F__law_has : Fun G.K "_law_has" "_law_has" s__law_has G.f__law_has G.d__law_has
  b__law_has : Binds G.K G.d__law_has ["_law_plan_here", "_law_word"] []
  g__law_has : G.mg "_law_has" = some (.ref G.f__law_has)
  F__law_acts : Fun G.K "_law_acts" "_law_acts" s__law_acts G.f__law_acts G.d__law_acts
  b__law_acts : Binds G.K G.d__law_acts ["_law_moves_here"] []
  g__law_acts : G.mg "_law_acts" = some (.ref G.f__law_acts)
  F__law_refused : Fun G.K "_law_refused" "_law_refused" s__law_refused G.f__law_refused G.d__law_refused
  b__law_refused : Binds G.K G.d__law_refused ["_law_thing", "_law_word"] []
  g__law_refused : G.mg "_law_refused" = some (.ref G.f__law_refused)
  F__law_right : Fun G.K "_law_right" "_law_right" s__law_right G.f__law_right G.d__law_right
  b__law_right : Binds G.K G.d__law_right ["_law_source_here"] []
  g__law_right : G.mg "_law_right" = some (.ref G.f__law_right)
  F_law : Fun G.K "law" "law" s_law G.f_law G.d_law
  b_law : Binds G.K G.d_law ["_law_script"] []
  g_law : G.mg "law" = some (.ref G.f_law)
  cl_Fact : Cls G.K G.c_Fact
  gc_Fact : G.mg "Fact" = some (.ref G.c_Fact)
  cl_Monoid : Cls G.K G.c_Monoid
  gc_Monoid : G.mg "Monoid" = some (.ref G.c_Monoid)
  mk_Monoid : Mk G.K G.c_Monoid G.f_Monoid_init
  na_Monoid_right : NoAttr G.K G.c_Monoid "right"
  na_Monoid_tree : NoAttr G.K G.c_Monoid "tree"
  na_Monoid_lefts : NoAttr G.K G.c_Monoid "lefts"
  na_Monoid_memory : NoAttr G.K G.c_Monoid "memory"
  cl_Automaton : Cls G.K G.c_Automaton
  gc_Automaton : G.mg "Automaton" = some (.ref G.c_Automaton)
  mk_Automaton : Mk G.K G.c_Automaton G.f_Automaton_init
  na_Automaton_rows : NoAttr G.K G.c_Automaton "rows"
  na_Automaton_start : NoAttr G.K G.c_Automaton "start"
  na_Automaton_accepted : NoAttr G.K G.c_Automaton "accepted"
  na_Automaton_memory : NoAttr G.K G.c_Automaton "memory"
  cl_Language : Cls G.K G.c_Language
  gc_Language : G.mg "Language" = some (.ref G.c_Language)
  mk_Language : Mk G.K G.c_Language G.f_Language_init
  na_Language_monoid : NoAttr G.K G.c_Language "monoid"
  na_Language_accepted : NoAttr G.K G.c_Language "accepted"
  na_Language_memory : NoAttr G.K G.c_Language "memory"
  gc_NoWord : G.mg "NoWord" = some (.ref G.c_NoWord)
  oe_NoWord : OexC G.K G.c_NoWord
  xf_NoWord : XfC G.K G.c_NoWord
  no_NoWord_word : PySem.W.findIn G.K (.ref G.c_NoWord) "word" = some none
  in_NoWord : PySem.W.findIn G.K (.ref G.c_NoWord) "__init__" = some (some (.ref G.f_NoWord_init)) ∧ PySem.W.typeIn G.K (.ref G.f_NoWord_init) = some (.type "function")
  gc_FoldError : G.mg "FoldError" = some (.ref G.c_FoldError)
  exm_NoWord_NoWord : PySem.W.exmOne G.K (.ref G.c_NoWord) (.ref G.c_NoWord) = some true
  eq_Automaton : PySem.W.findIn G.K (.ref G.c_Automaton) "__eq__" = some (some (.ref G.f_Fact_eq)) ∧ PySem.W.isFn G.K (.ref G.f_Fact_eq) = true
  is_Monoid : InstC G.K G.c_Monoid
  is_Automaton : InstC G.K G.c_Automaton
  is_Language : InstC G.K G.c_Language
  kt_Automaton_Language : PySem.W.kitOne G.K (.ref G.c_Automaton) (.ref G.c_Language) = some false
  kt_Automaton_Automaton : PySem.W.kitOne G.K (.ref G.c_Automaton) (.ref G.c_Automaton) = some true
  kt_Language_Language : PySem.W.kitOne G.K (.ref G.c_Language) (.ref G.c_Language) = some true
  kt_Monoid_Monoid : PySem.W.kitOne G.K (.ref G.c_Monoid) (.ref G.c_Monoid) = some true
  kt_Automaton_Fact : PySem.W.kitOne G.K (.ref G.c_Automaton) (.ref G.c_Fact) = some true
  k_MOST_ELEMENTS : ∃ u, G.mg "MOST_ELEMENTS" = some u ∧ RelV (.int 2000) u
  k_MOST_LETTERS : ∃ u, G.mg "MOST_LETTERS" = some u ∧ RelV (.int 6) u
  k_SIGNS : ∃ u, G.mg "SIGNS" = some u ∧ RelV (.str "abcd") u
  k_MOST_STATES : ∃ u, G.mg "MOST_STATES" = some u ∧ RelV (.int 40) u
  k_MOST_MADE : ∃ u, G.mg "MOST_MADE" = some u ∧ RelV (.int 500) u
  k_MOST_SIGNS : ∃ u, G.mg "MOST_SIGNS" = some u ∧ RelV (.int 300) u
  n_len : G.mg "len" = none
  n_int : G.mg "int" = none
  n_abs : G.mg "abs" = none
  n_isinstance : G.mg "isinstance" = none
  n_tuple : G.mg "tuple" = none
  n_range : G.mg "range" = none
  n_enumerate : G.mg "enumerate" = none
  n_str : G.mg "str" = none
  n_list : G.mg "list" = none
  n_bool : G.mg "bool" = none
  n_all : G.mg "all" = none
  n_sorted : G.mg "sorted" = none
  n_set : G.mg "set" = none
  n_max : G.mg "max" = none
  n_repr : G.mg "repr" = none
theorem all_mk {K : PySem.W.Frag} {h : Heap} {mg : Str → Option Value} (X : K.In h) (Ns : h.Ns mainGlobals mg)
    {f_NoWord_init : Addr} {od_NoWord_init an_NoWord_init : Option Addr} {sl_NoWord_init : Array (Option Value)} {oc_NoWord_init kV_NoWord_init dc_NoWord_init pm_NoWord_init cd_NoWord_init ct_NoWord_init : Value}
    {f_NoWord_told : Addr} {od_NoWord_told an_NoWord_told : Option Addr} {sl_NoWord_told : Array (Option Value)} {oc_NoWord_told kV_NoWord_told dc_NoWord_told pm_NoWord_told cd_NoWord_told ct_NoWord_told : Value}
    {f_Fact_eq : Addr} {od_Fact_eq an_Fact_eq : Option Addr} {sl_Fact_eq : Array (Option Value)} {oc_Fact_eq kV_Fact_eq dc_Fact_eq pm_Fact_eq cd_Fact_eq ct_Fact_eq : Value}
    {f_is_number : Addr} {od_is_number an_is_number : Option Addr} {sl_is_number : Array (Option Value)} {oc_is_number kV_is_number dc_is_number pm_is_number cd_is_number ct_is_number : Value}
    {f_is_sequence : Addr} {od_is_sequence an_is_sequence : Option Addr} {sl_is_sequence : Array (Option Value)} {oc_is_sequence kV_is_sequence dc_is_sequence pm_is_sequence cd_is_sequence ct_is_sequence : Value}
    {f_check_form : Addr} {od_check_form an_check_form : Option Addr} {sl_check_form : Array (Option Value)} {oc_check_form kV_check_form dc_check_form pm_check_form cd_check_form ct_check_form : Value}
    {f_check_order : Addr} {od_check_order an_check_order : Option Addr} {sl_check_order : Array (Option Value)} {oc_check_order kV_check_order dc_check_order pm_check_order cd_check_order ct_check_order : Value}
    {f_tree_of : Addr} {od_tree_of an_tree_of : Option Addr} {sl_tree_of : Array (Option Value)} {oc_tree_of kV_tree_of dc_tree_of pm_tree_of cd_tree_of ct_tree_of : Value}
    {f_left_of : Addr} {od_left_of an_left_of : Option Addr} {sl_left_of : Array (Option Value)} {oc_left_of kV_left_of dc_left_of pm_left_of cd_left_of ct_left_of : Value}
    {f_check_products : Addr} {od_check_products an_check_products : Option Addr} {sl_check_products : Array (Option Value)} {oc_check_products kV_check_products dc_check_products pm_check_products cd_check_products ct_check_products : Value}
    {f_Monoid_init : Addr} {od_Monoid_init an_Monoid_init : Option Addr} {sl_Monoid_init : Array (Option Value)} {oc_Monoid_init kV_Monoid_init dc_Monoid_init pm_Monoid_init cd_Monoid_init ct_Monoid_init : Value}
    {f_checked : Addr} {od_checked an_checked : Option Addr} {sl_checked : Array (Option Value)} {oc_checked kV_checked dc_checked pm_checked cd_checked ct_checked : Value}
    {f_is_below : Addr} {od_is_below an_is_below : Option Addr} {sl_is_below : Array (Option Value)} {oc_is_below kV_is_below dc_is_below pm_is_below cd_is_below ct_is_below : Value}
    {f_check_rows : Addr} {od_check_rows an_check_rows : Option Addr} {sl_check_rows : Array (Option Value)} {oc_check_rows kV_check_rows dc_check_rows pm_check_rows cd_check_rows ct_check_rows : Value}
    {f_Automaton_init : Addr} {od_Automaton_init an_Automaton_init : Option Addr} {sl_Automaton_init : Array (Option Value)} {oc_Automaton_init kV_Automaton_init dc_Automaton_init pm_Automaton_init cd_Automaton_init ct_Automaton_init : Value}
    {f_Automaton_settle : Addr} {od_Automaton_settle an_Automaton_settle : Option Addr} {sl_Automaton_settle : Array (Option Value)} {oc_Automaton_settle kV_Automaton_settle dc_Automaton_settle pm_Automaton_settle cd_Automaton_settle ct_Automaton_settle : Value}
    {f_Automaton_facts : Addr} {od_Automaton_facts an_Automaton_facts : Option Addr} {sl_Automaton_facts : Array (Option Value)} {oc_Automaton_facts kV_Automaton_facts dc_Automaton_facts pm_Automaton_facts cd_Automaton_facts ct_Automaton_facts : Value}
    {f_Language_init : Addr} {od_Language_init an_Language_init : Option Addr} {sl_Language_init : Array (Option Value)} {oc_Language_init kV_Language_init dc_Language_init pm_Language_init cd_Language_init ct_Language_init : Value}
    {f_table_of : Addr} {od_table_of an_table_of : Option Addr} {sl_table_of : Array (Option Value)} {oc_table_of kV_table_of dc_table_of pm_table_of cd_table_of ct_table_of : Value}
    {f_check_word : Addr} {od_check_word an_check_word : Option Addr} {sl_check_word : Array (Option Value)} {oc_check_word kV_check_word dc_check_word pm_check_word cd_check_word ct_check_word : Value}
    {f_accepts : Addr} {od_accepts an_accepts : Option Addr} {sl_accepts : Array (Option Value)} {oc_accepts kV_accepts dc_accepts pm_accepts cd_accepts ct_accepts : Value}
    {f__law_source : Addr} {od__law_source an__law_source : Option Addr} {sl__law_source : Array (Option Value)} {oc__law_source kV__law_source dc__law_source pm__law_source cd__law_source ct__law_source : Value}
    {f__law_draw : Addr} {od__law_draw an__law_draw : Option Addr} {sl__law_draw : Array (Option Value)} {oc__law_draw kV__law_draw dc__law_draw pm__law_draw cd__law_draw ct__law_draw : Value}
    {f__law_pick : Addr} {od__law_pick an__law_pick : Option Addr} {sl__law_pick : Array (Option Value)} {oc__law_pick kV__law_pick dc__law_pick pm__law_pick cd__law_pick ct__law_pick : Value}
    {f__law_moves : Addr} {od__law_moves an__law_moves : Option Addr} {sl__law_moves : Array (Option Value)} {oc__law_moves kV__law_moves dc__law_moves pm__law_moves cd__law_moves ct__law_moves : Value}
    {f__law_plan : Addr} {od__law_plan an__law_plan : Option Addr} {sl__law_plan : Array (Option Value)} {oc__law_plan kV__law_plan dc__law_plan pm__law_plan cd__law_plan ct__law_plan : Value}
    {f__law_all_words : Addr} {od__law_all_words an__law_all_words : Option Addr} {sl__law_all_words : Array (Option Value)} {oc__law_all_words kV__law_all_words dc__law_all_words pm__law_all_words cd__law_all_words ct__law_all_words : Value}
    {f__law_led : Addr} {od__law_led an__law_led : Option Addr} {sl__law_led : Array (Option Value)} {oc__law_led kV__law_led dc__law_led pm__law_led cd__law_led ct__law_led : Value}
    {f__law_has : Addr} {od__law_has an__law_has : Option Addr} {sl__law_has : Array (Option Value)} {oc__law_has kV__law_has dc__law_has pm__law_has cd__law_has ct__law_has : Value}
    {f__law_acts : Addr} {od__law_acts an__law_acts : Option Addr} {sl__law_acts : Array (Option Value)} {oc__law_acts kV__law_acts dc__law_acts pm__law_acts cd__law_acts ct__law_acts : Value}
    {f__law_refused : Addr} {od__law_refused an__law_refused : Option Addr} {sl__law_refused : Array (Option Value)} {oc__law_refused kV__law_refused dc__law_refused pm__law_refused cd__law_refused ct__law_refused : Value}
    {f__law_right : Addr} {od__law_right an__law_right : Option Addr} {sl__law_right : Array (Option Value)} {oc__law_right kV__law_right dc__law_right pm__law_right cd__law_right ct__law_right : Value}
    {f_law : Addr} {od_law an_law : Option Addr} {sl_law : Array (Option Value)} {oc_law kV_law dc_law pm_law cd_law ct_law : Value}
    {c_Fact : Addr}
    {c_Monoid : Addr}
    {c_Automaton : Addr}
    {c_Language : Addr}
    {c_NoWord : Addr}
    {nm_NoWord q_NoWord : Str} {N_NoWord : Addr} {bs_NoWord bm_NoWord : List Value} {sn_NoWord : List Str} {sub_NoWord : List Value} {ab_NoWord : Bool} {col_NoWord : Option Bool} {dd_NoWord : Option Addr} {m0_NoWord m1_NoWord m2_NoWord m3_NoWord m5_NoWord : Option Value}
    {c_FoldError : Addr}
    {u_MOST_ELEMENTS : Value}
    {u_MOST_LETTERS : Value}
    {u_SIGNS : Value}
    {u_MOST_STATES : Value}
    {u_MOST_MADE : Value}
    {u_MOST_SIGNS : Value}
    (a_NoWord_init : PySem.W.findIn K (.ref c_NoWord) "__init__" = some (some (.ref f_NoWord_init)))
    (t_NoWord_init : PySem.W.typeIn K (.ref f_NoWord_init) = some (.type "function"))
    (l_NoWord_init : K.lookup f_NoWord_init = some ⟨oc_NoWord_init, od_NoWord_init, .func (PySem.W.fnOf "__init__" "NoWord.__init__" (defArgs s_NoWord_init) (defBody s_NoWord_init) (defScope s_NoWord_init) .none kV_NoWord_init dc_NoWord_init pm_NoWord_init an_NoWord_init cd_NoWord_init ct_NoWord_init), sl_NoWord_init⟩)
    (e_NoWord_init : PySem.W.codeIn K cd_NoWord_init "NoWord.__init__" = true)
    (k_NoWord_init : PySem.W.keepIn K (.ref f_NoWord_init) = true)
    (a_NoWord_told : PySem.W.findIn K (.ref c_NoWord) "told" = some (some (.ref f_NoWord_told)))
    (t_NoWord_told : PySem.W.typeIn K (.ref f_NoWord_told) = some (.type "function"))
    (l_NoWord_told : K.lookup f_NoWord_told = some ⟨oc_NoWord_told, od_NoWord_told, .func (PySem.W.fnOf "told" "NoWord.told" (defArgs s_NoWord_told) (defBody s_NoWord_told) (defScope s_NoWord_told) .none kV_NoWord_told dc_NoWord_told pm_NoWord_told an_NoWord_told cd_NoWord_told ct_NoWord_told), sl_NoWord_told⟩)
    (e_NoWord_told : PySem.W.codeIn K cd_NoWord_told "NoWord.told" = true)
    (k_NoWord_told : PySem.W.keepIn K (.ref f_NoWord_told) = true)
    (a_Fact_eq : PySem.W.findIn K (.ref c_Fact) "__eq__" = some (some (.ref f_Fact_eq)))
    (i_Fact_eq : PySem.W.isFn K (.ref f_Fact_eq) = true)
    (l_Fact_eq : K.lookup f_Fact_eq = some ⟨oc_Fact_eq, od_Fact_eq, .func (PySem.W.fnOf "__eq__" "Fact.__eq__" (defArgs s_Fact_eq) (defBody s_Fact_eq) (defScope s_Fact_eq) .none kV_Fact_eq dc_Fact_eq pm_Fact_eq an_Fact_eq cd_Fact_eq ct_Fact_eq), sl_Fact_eq⟩)
    (e_Fact_eq : PySem.W.codeIn K cd_Fact_eq "Fact.__eq__" = true)
    (k_Fact_eq : PySem.W.keepIn K (.ref f_Fact_eq) = true)
    (a_is_number : PySem.W.nsIn K mainGlobals "is_number" = some (some (.ref f_is_number)))
    (l_is_number : K.lookup f_is_number = some ⟨oc_is_number, od_is_number, .func (PySem.W.fnOf "is_number" "is_number" (defArgs s_is_number) (defBody s_is_number) (defScope s_is_number) .none kV_is_number dc_is_number pm_is_number an_is_number cd_is_number ct_is_number), sl_is_number⟩)
    (e_is_number : PySem.W.codeIn K cd_is_number "is_number" = true)
    (k_is_number : PySem.W.keepIn K (.ref f_is_number) = true)
    (a_is_sequence : PySem.W.nsIn K mainGlobals "is_sequence" = some (some (.ref f_is_sequence)))
    (l_is_sequence : K.lookup f_is_sequence = some ⟨oc_is_sequence, od_is_sequence, .func (PySem.W.fnOf "is_sequence" "is_sequence" (defArgs s_is_sequence) (defBody s_is_sequence) (defScope s_is_sequence) .none kV_is_sequence dc_is_sequence pm_is_sequence an_is_sequence cd_is_sequence ct_is_sequence), sl_is_sequence⟩)
    (e_is_sequence : PySem.W.codeIn K cd_is_sequence "is_sequence" = true)
    (k_is_sequence : PySem.W.keepIn K (.ref f_is_sequence) = true)
    (a_check_form : PySem.W.nsIn K mainGlobals "check_form" = some (some (.ref f_check_form)))
    (l_check_form : K.lookup f_check_form = some ⟨oc_check_form, od_check_form, .func (PySem.W.fnOf "check_form" "check_form" (defArgs s_check_form) (defBody s_check_form) (defScope s_check_form) .none kV_check_form dc_check_form pm_check_form an_check_form cd_check_form ct_check_form), sl_check_form⟩)
    (e_check_form : PySem.W.codeIn K cd_check_form "check_form" = true)
    (k_check_form : PySem.W.keepIn K (.ref f_check_form) = true)
    (a_check_order : PySem.W.nsIn K mainGlobals "check_order" = some (some (.ref f_check_order)))
    (l_check_order : K.lookup f_check_order = some ⟨oc_check_order, od_check_order, .func (PySem.W.fnOf "check_order" "check_order" (defArgs s_check_order) (defBody s_check_order) (defScope s_check_order) .none kV_check_order dc_check_order pm_check_order an_check_order cd_check_order ct_check_order), sl_check_order⟩)
    (e_check_order : PySem.W.codeIn K cd_check_order "check_order" = true)
    (k_check_order : PySem.W.keepIn K (.ref f_check_order) = true)
    (a_tree_of : PySem.W.nsIn K mainGlobals "tree_of" = some (some (.ref f_tree_of)))
    (l_tree_of : K.lookup f_tree_of = some ⟨oc_tree_of, od_tree_of, .func (PySem.W.fnOf "tree_of" "tree_of" (defArgs s_tree_of) (defBody s_tree_of) (defScope s_tree_of) .none kV_tree_of dc_tree_of pm_tree_of an_tree_of cd_tree_of ct_tree_of), sl_tree_of⟩)
    (e_tree_of : PySem.W.codeIn K cd_tree_of "tree_of" = true)
    (k_tree_of : PySem.W.keepIn K (.ref f_tree_of) = true)
    (a_left_of : PySem.W.nsIn K mainGlobals "left_of" = some (some (.ref f_left_of)))
    (l_left_of : K.lookup f_left_of = some ⟨oc_left_of, od_left_of, .func (PySem.W.fnOf "left_of" "left_of" (defArgs s_left_of) (defBody s_left_of) (defScope s_left_of) .none kV_left_of dc_left_of pm_left_of an_left_of cd_left_of ct_left_of), sl_left_of⟩)
    (e_left_of : PySem.W.codeIn K cd_left_of "left_of" = true)
    (k_left_of : PySem.W.keepIn K (.ref f_left_of) = true)
    (a_check_products : PySem.W.nsIn K mainGlobals "check_products" = some (some (.ref f_check_products)))
    (l_check_products : K.lookup f_check_products = some ⟨oc_check_products, od_check_products, .func (PySem.W.fnOf "check_products" "check_products" (defArgs s_check_products) (defBody s_check_products) (defScope s_check_products) .none kV_check_products dc_check_products pm_check_products an_check_products cd_check_products ct_check_products), sl_check_products⟩)
    (e_check_products : PySem.W.codeIn K cd_check_products "check_products" = true)
    (k_check_products : PySem.W.keepIn K (.ref f_check_products) = true)
    (a_Monoid_init : PySem.W.findIn K (.ref c_Monoid) "__init__" = some (some (.ref f_Monoid_init)))
    (i_Monoid_init : PySem.W.isFn K (.ref f_Monoid_init) = true)
    (l_Monoid_init : K.lookup f_Monoid_init = some ⟨oc_Monoid_init, od_Monoid_init, .func (PySem.W.fnOf "__init__" "Monoid.__init__" (defArgs s_Monoid_init) (defBody s_Monoid_init) (defScope s_Monoid_init) .none kV_Monoid_init dc_Monoid_init pm_Monoid_init an_Monoid_init cd_Monoid_init ct_Monoid_init), sl_Monoid_init⟩)
    (e_Monoid_init : PySem.W.codeIn K cd_Monoid_init "Monoid.__init__" = true)
    (k_Monoid_init : PySem.W.keepIn K (.ref f_Monoid_init) = true)
    (a_checked : PySem.W.nsIn K mainGlobals "checked" = some (some (.ref f_checked)))
    (l_checked : K.lookup f_checked = some ⟨oc_checked, od_checked, .func (PySem.W.fnOf "checked" "checked" (defArgs s_checked) (defBody s_checked) (defScope s_checked) .none kV_checked dc_checked pm_checked an_checked cd_checked ct_checked), sl_checked⟩)
    (e_checked : PySem.W.codeIn K cd_checked "checked" = true)
    (k_checked : PySem.W.keepIn K (.ref f_checked) = true)
    (a_is_below : PySem.W.nsIn K mainGlobals "is_below" = some (some (.ref f_is_below)))
    (l_is_below : K.lookup f_is_below = some ⟨oc_is_below, od_is_below, .func (PySem.W.fnOf "is_below" "is_below" (defArgs s_is_below) (defBody s_is_below) (defScope s_is_below) .none kV_is_below dc_is_below pm_is_below an_is_below cd_is_below ct_is_below), sl_is_below⟩)
    (e_is_below : PySem.W.codeIn K cd_is_below "is_below" = true)
    (k_is_below : PySem.W.keepIn K (.ref f_is_below) = true)
    (a_check_rows : PySem.W.nsIn K mainGlobals "check_rows" = some (some (.ref f_check_rows)))
    (l_check_rows : K.lookup f_check_rows = some ⟨oc_check_rows, od_check_rows, .func (PySem.W.fnOf "check_rows" "check_rows" (defArgs s_check_rows) (defBody s_check_rows) (defScope s_check_rows) .none kV_check_rows dc_check_rows pm_check_rows an_check_rows cd_check_rows ct_check_rows), sl_check_rows⟩)
    (e_check_rows : PySem.W.codeIn K cd_check_rows "check_rows" = true)
    (k_check_rows : PySem.W.keepIn K (.ref f_check_rows) = true)
    (a_Automaton_init : PySem.W.findIn K (.ref c_Automaton) "__init__" = some (some (.ref f_Automaton_init)))
    (i_Automaton_init : PySem.W.isFn K (.ref f_Automaton_init) = true)
    (l_Automaton_init : K.lookup f_Automaton_init = some ⟨oc_Automaton_init, od_Automaton_init, .func (PySem.W.fnOf "__init__" "Automaton.__init__" (defArgs s_Automaton_init) (defBody s_Automaton_init) (defScope s_Automaton_init) .none kV_Automaton_init dc_Automaton_init pm_Automaton_init an_Automaton_init cd_Automaton_init ct_Automaton_init), sl_Automaton_init⟩)
    (e_Automaton_init : PySem.W.codeIn K cd_Automaton_init "Automaton.__init__" = true)
    (k_Automaton_init : PySem.W.keepIn K (.ref f_Automaton_init) = true)
    (a_Automaton_settle : PySem.W.findIn K (.ref c_Automaton) "settle" = some (some (.ref f_Automaton_settle)))
    (i_Automaton_settle : PySem.W.isFn K (.ref f_Automaton_settle) = true)
    (l_Automaton_settle : K.lookup f_Automaton_settle = some ⟨oc_Automaton_settle, od_Automaton_settle, .func (PySem.W.fnOf "settle" "Automaton.settle" (defArgs s_Automaton_settle) (defBody s_Automaton_settle) (defScope s_Automaton_settle) .none kV_Automaton_settle dc_Automaton_settle pm_Automaton_settle an_Automaton_settle cd_Automaton_settle ct_Automaton_settle), sl_Automaton_settle⟩)
    (e_Automaton_settle : PySem.W.codeIn K cd_Automaton_settle "Automaton.settle" = true)
    (k_Automaton_settle : PySem.W.keepIn K (.ref f_Automaton_settle) = true)
    (a_Automaton_facts : PySem.W.findIn K (.ref c_Automaton) "facts" = some (some (.ref f_Automaton_facts)))
    (i_Automaton_facts : PySem.W.isFn K (.ref f_Automaton_facts) = true)
    (l_Automaton_facts : K.lookup f_Automaton_facts = some ⟨oc_Automaton_facts, od_Automaton_facts, .func (PySem.W.fnOf "facts" "Automaton.facts" (defArgs s_Automaton_facts) (defBody s_Automaton_facts) (defScope s_Automaton_facts) .none kV_Automaton_facts dc_Automaton_facts pm_Automaton_facts an_Automaton_facts cd_Automaton_facts ct_Automaton_facts), sl_Automaton_facts⟩)
    (e_Automaton_facts : PySem.W.codeIn K cd_Automaton_facts "Automaton.facts" = true)
    (k_Automaton_facts : PySem.W.keepIn K (.ref f_Automaton_facts) = true)
    (a_Language_init : PySem.W.findIn K (.ref c_Language) "__init__" = some (some (.ref f_Language_init)))
    (i_Language_init : PySem.W.isFn K (.ref f_Language_init) = true)
    (l_Language_init : K.lookup f_Language_init = some ⟨oc_Language_init, od_Language_init, .func (PySem.W.fnOf "__init__" "Language.__init__" (defArgs s_Language_init) (defBody s_Language_init) (defScope s_Language_init) .none kV_Language_init dc_Language_init pm_Language_init an_Language_init cd_Language_init ct_Language_init), sl_Language_init⟩)
    (e_Language_init : PySem.W.codeIn K cd_Language_init "Language.__init__" = true)
    (k_Language_init : PySem.W.keepIn K (.ref f_Language_init) = true)
    (a_table_of : PySem.W.nsIn K mainGlobals "table_of" = some (some (.ref f_table_of)))
    (l_table_of : K.lookup f_table_of = some ⟨oc_table_of, od_table_of, .func (PySem.W.fnOf "table_of" "table_of" (defArgs s_table_of) (defBody s_table_of) (defScope s_table_of) .none kV_table_of dc_table_of pm_table_of an_table_of cd_table_of ct_table_of), sl_table_of⟩)
    (e_table_of : PySem.W.codeIn K cd_table_of "table_of" = true)
    (k_table_of : PySem.W.keepIn K (.ref f_table_of) = true)
    (a_check_word : PySem.W.nsIn K mainGlobals "check_word" = some (some (.ref f_check_word)))
    (l_check_word : K.lookup f_check_word = some ⟨oc_check_word, od_check_word, .func (PySem.W.fnOf "check_word" "check_word" (defArgs s_check_word) (defBody s_check_word) (defScope s_check_word) .none kV_check_word dc_check_word pm_check_word an_check_word cd_check_word ct_check_word), sl_check_word⟩)
    (e_check_word : PySem.W.codeIn K cd_check_word "check_word" = true)
    (k_check_word : PySem.W.keepIn K (.ref f_check_word) = true)
    (a_accepts : PySem.W.nsIn K mainGlobals "accepts" = some (some (.ref f_accepts)))
    (l_accepts : K.lookup f_accepts = some ⟨oc_accepts, od_accepts, .func (PySem.W.fnOf "accepts" "accepts" (defArgs s_accepts) (defBody s_accepts) (defScope s_accepts) .none kV_accepts dc_accepts pm_accepts an_accepts cd_accepts ct_accepts), sl_accepts⟩)
    (e_accepts : PySem.W.codeIn K cd_accepts "accepts" = true)
    (k_accepts : PySem.W.keepIn K (.ref f_accepts) = true)
    (a__law_source : PySem.W.nsIn K mainGlobals "_law_source" = some (some (.ref f__law_source)))
    (l__law_source : K.lookup f__law_source = some ⟨oc__law_source, od__law_source, .func (PySem.W.fnOf "_law_source" "_law_source" (defArgs s__law_source) (defBody s__law_source) (defScope s__law_source) .none kV__law_source dc__law_source pm__law_source an__law_source cd__law_source ct__law_source), sl__law_source⟩)
    (e__law_source : PySem.W.codeIn K cd__law_source "_law_source" = true)
    (k__law_source : PySem.W.keepIn K (.ref f__law_source) = true)
    (a__law_draw : PySem.W.nsIn K mainGlobals "_law_draw" = some (some (.ref f__law_draw)))
    (l__law_draw : K.lookup f__law_draw = some ⟨oc__law_draw, od__law_draw, .func (PySem.W.fnOf "_law_draw" "_law_draw" (defArgs s__law_draw) (defBody s__law_draw) (defScope s__law_draw) .none kV__law_draw dc__law_draw pm__law_draw an__law_draw cd__law_draw ct__law_draw), sl__law_draw⟩)
    (e__law_draw : PySem.W.codeIn K cd__law_draw "_law_draw" = true)
    (k__law_draw : PySem.W.keepIn K (.ref f__law_draw) = true)
    (a__law_pick : PySem.W.nsIn K mainGlobals "_law_pick" = some (some (.ref f__law_pick)))
    (l__law_pick : K.lookup f__law_pick = some ⟨oc__law_pick, od__law_pick, .func (PySem.W.fnOf "_law_pick" "_law_pick" (defArgs s__law_pick) (defBody s__law_pick) (defScope s__law_pick) .none kV__law_pick dc__law_pick pm__law_pick an__law_pick cd__law_pick ct__law_pick), sl__law_pick⟩)
    (e__law_pick : PySem.W.codeIn K cd__law_pick "_law_pick" = true)
    (k__law_pick : PySem.W.keepIn K (.ref f__law_pick) = true)
    (a__law_moves : PySem.W.nsIn K mainGlobals "_law_moves" = some (some (.ref f__law_moves)))
    (l__law_moves : K.lookup f__law_moves = some ⟨oc__law_moves, od__law_moves, .func (PySem.W.fnOf "_law_moves" "_law_moves" (defArgs s__law_moves) (defBody s__law_moves) (defScope s__law_moves) .none kV__law_moves dc__law_moves pm__law_moves an__law_moves cd__law_moves ct__law_moves), sl__law_moves⟩)
    (e__law_moves : PySem.W.codeIn K cd__law_moves "_law_moves" = true)
    (k__law_moves : PySem.W.keepIn K (.ref f__law_moves) = true)
    (a__law_plan : PySem.W.nsIn K mainGlobals "_law_plan" = some (some (.ref f__law_plan)))
    (l__law_plan : K.lookup f__law_plan = some ⟨oc__law_plan, od__law_plan, .func (PySem.W.fnOf "_law_plan" "_law_plan" (defArgs s__law_plan) (defBody s__law_plan) (defScope s__law_plan) .none kV__law_plan dc__law_plan pm__law_plan an__law_plan cd__law_plan ct__law_plan), sl__law_plan⟩)
    (e__law_plan : PySem.W.codeIn K cd__law_plan "_law_plan" = true)
    (k__law_plan : PySem.W.keepIn K (.ref f__law_plan) = true)
    (a__law_all_words : PySem.W.nsIn K mainGlobals "_law_all_words" = some (some (.ref f__law_all_words)))
    (l__law_all_words : K.lookup f__law_all_words = some ⟨oc__law_all_words, od__law_all_words, .func (PySem.W.fnOf "_law_all_words" "_law_all_words" (defArgs s__law_all_words) (defBody s__law_all_words) (defScope s__law_all_words) .none kV__law_all_words dc__law_all_words pm__law_all_words an__law_all_words cd__law_all_words ct__law_all_words), sl__law_all_words⟩)
    (e__law_all_words : PySem.W.codeIn K cd__law_all_words "_law_all_words" = true)
    (k__law_all_words : PySem.W.keepIn K (.ref f__law_all_words) = true)
    (a__law_led : PySem.W.nsIn K mainGlobals "_law_led" = some (some (.ref f__law_led)))
    (l__law_led : K.lookup f__law_led = some ⟨oc__law_led, od__law_led, .func (PySem.W.fnOf "_law_led" "_law_led" (defArgs s__law_led) (defBody s__law_led) (defScope s__law_led) .none kV__law_led dc__law_led pm__law_led an__law_led cd__law_led ct__law_led), sl__law_led⟩)
    (e__law_led : PySem.W.codeIn K cd__law_led "_law_led" = true)
    (k__law_led : PySem.W.keepIn K (.ref f__law_led) = true)
    (a__law_has : PySem.W.nsIn K mainGlobals "_law_has" = some (some (.ref f__law_has)))
    (l__law_has : K.lookup f__law_has = some ⟨oc__law_has, od__law_has, .func (PySem.W.fnOf "_law_has" "_law_has" (defArgs s__law_has) (defBody s__law_has) (defScope s__law_has) .none kV__law_has dc__law_has pm__law_has an__law_has cd__law_has ct__law_has), sl__law_has⟩)
    (e__law_has : PySem.W.codeIn K cd__law_has "_law_has" = true)
    (k__law_has : PySem.W.keepIn K (.ref f__law_has) = true)
    (a__law_acts : PySem.W.nsIn K mainGlobals "_law_acts" = some (some (.ref f__law_acts)))
    (l__law_acts : K.lookup f__law_acts = some ⟨oc__law_acts, od__law_acts, .func (PySem.W.fnOf "_law_acts" "_law_acts" (defArgs s__law_acts) (defBody s__law_acts) (defScope s__law_acts) .none kV__law_acts dc__law_acts pm__law_acts an__law_acts cd__law_acts ct__law_acts), sl__law_acts⟩)
    (e__law_acts : PySem.W.codeIn K cd__law_acts "_law_acts" = true)
    (k__law_acts : PySem.W.keepIn K (.ref f__law_acts) = true)
    (a__law_refused : PySem.W.nsIn K mainGlobals "_law_refused" = some (some (.ref f__law_refused)))
    (l__law_refused : K.lookup f__law_refused = some ⟨oc__law_refused, od__law_refused, .func (PySem.W.fnOf "_law_refused" "_law_refused" (defArgs s__law_refused) (defBody s__law_refused) (defScope s__law_refused) .none kV__law_refused dc__law_refused pm__law_refused an__law_refused cd__law_refused ct__law_refused), sl__law_refused⟩)
    (e__law_refused : PySem.W.codeIn K cd__law_refused "_law_refused" = true)
    (k__law_refused : PySem.W.keepIn K (.ref f__law_refused) = true)
    (a__law_right : PySem.W.nsIn K mainGlobals "_law_right" = some (some (.ref f__law_right)))
    (l__law_right : K.lookup f__law_right = some ⟨oc__law_right, od__law_right, .func (PySem.W.fnOf "_law_right" "_law_right" (defArgs s__law_right) (defBody s__law_right) (defScope s__law_right) .none kV__law_right dc__law_right pm__law_right an__law_right cd__law_right ct__law_right), sl__law_right⟩)
    (e__law_right : PySem.W.codeIn K cd__law_right "_law_right" = true)
    (k__law_right : PySem.W.keepIn K (.ref f__law_right) = true)
    (a_law : PySem.W.nsIn K mainGlobals "law" = some (some (.ref f_law)))
    (l_law : K.lookup f_law = some ⟨oc_law, od_law, .func (PySem.W.fnOf "law" "law" (defArgs s_law) (defBody s_law) (defScope s_law) .none kV_law dc_law pm_law an_law cd_law ct_law), sl_law⟩)
    (e_law : PySem.W.codeIn K cd_law "law" = true)
    (k_law : PySem.W.keepIn K (.ref f_law) = true)
    (ac_Fact : PySem.W.nsIn K mainGlobals "Fact" = some (some (.ref c_Fact)))
    (pg_Fact : PySem.W.plainGet K c_Fact Str.empty = true)
    (hd_Fact : PySem.W.hasDictIn K c_Fact = true)
    (po_Fact : PySem.W.plainOver K c_Fact = true)
    (sa_Fact : PySem.W.findIn K (.ref c_Fact) "__setattr__" = some (some (.builtin "object.__setattr__")))
    (ac_Monoid : PySem.W.nsIn K mainGlobals "Monoid" = some (some (.ref c_Monoid)))
    (pg_Monoid : PySem.W.plainGet K c_Monoid Str.empty = true)
    (hd_Monoid : PySem.W.hasDictIn K c_Monoid = true)
    (po_Monoid : PySem.W.plainOver K c_Monoid = true)
    (sa_Monoid : PySem.W.findIn K (.ref c_Monoid) "__setattr__" = some (some (.builtin "object.__setattr__")))
    (mk_Monoid : PySem.W.makesIn K c_Monoid = true)
    (kc_Monoid : PySem.W.keepIn K (.ref c_Monoid) = true)
    (na_Monoid_right : PySem.W.findIn K (.ref c_Monoid) "right" = some none)
    (na_Monoid_tree : PySem.W.findIn K (.ref c_Monoid) "tree" = some none)
    (na_Monoid_lefts : PySem.W.findIn K (.ref c_Monoid) "lefts" = some none)
    (na_Monoid_memory : PySem.W.findIn K (.ref c_Monoid) "memory" = some none)
    (ac_Automaton : PySem.W.nsIn K mainGlobals "Automaton" = some (some (.ref c_Automaton)))
    (pg_Automaton : PySem.W.plainGet K c_Automaton Str.empty = true)
    (hd_Automaton : PySem.W.hasDictIn K c_Automaton = true)
    (po_Automaton : PySem.W.plainOver K c_Automaton = true)
    (sa_Automaton : PySem.W.findIn K (.ref c_Automaton) "__setattr__" = some (some (.builtin "object.__setattr__")))
    (mk_Automaton : PySem.W.makesIn K c_Automaton = true)
    (kc_Automaton : PySem.W.keepIn K (.ref c_Automaton) = true)
    (na_Automaton_rows : PySem.W.findIn K (.ref c_Automaton) "rows" = some none)
    (na_Automaton_start : PySem.W.findIn K (.ref c_Automaton) "start" = some none)
    (na_Automaton_accepted : PySem.W.findIn K (.ref c_Automaton) "accepted" = some none)
    (na_Automaton_memory : PySem.W.findIn K (.ref c_Automaton) "memory" = some none)
    (ac_Language : PySem.W.nsIn K mainGlobals "Language" = some (some (.ref c_Language)))
    (pg_Language : PySem.W.plainGet K c_Language Str.empty = true)
    (hd_Language : PySem.W.hasDictIn K c_Language = true)
    (po_Language : PySem.W.plainOver K c_Language = true)
    (sa_Language : PySem.W.findIn K (.ref c_Language) "__setattr__" = some (some (.builtin "object.__setattr__")))
    (mk_Language : PySem.W.makesIn K c_Language = true)
    (kc_Language : PySem.W.keepIn K (.ref c_Language) = true)
    (na_Language_monoid : PySem.W.findIn K (.ref c_Language) "monoid" = some none)
    (na_Language_accepted : PySem.W.findIn K (.ref c_Language) "accepted" = some none)
    (na_Language_memory : PySem.W.findIn K (.ref c_Language) "memory" = some none)
    (ac_NoWord : PySem.W.nsIn K mainGlobals "NoWord" = some (some (.ref c_NoWord)))
    (x_NoWord : K.lookup c_NoWord = some (excClassObj nm_NoWord q_NoWord c_NoWord N_NoWord bs_NoWord bm_NoWord true sn_NoWord sub_NoWord ab_NoWord col_NoWord dd_NoWord m0_NoWord m1_NoWord m2_NoWord m3_NoWord m5_NoWord "ValueError.__new__"))
    (rv_NoWord : PySem.HandSPX.refsVE bm_NoWord = true)
    (sa_NoWord : PySem.W.findIn K (.ref c_NoWord) "__setattr__" = some (some (.builtin "object.__setattr__")))
    (ga_NoWord : PySem.W.findIn K (.ref c_NoWord) "__getattribute__" = some (some (.builtin "BaseException.__getattribute__")))
    (gg_NoWord : PySem.W.findIn K (.ref c_NoWord) "__getattr__" = some none)
    (ex_NoWord : PySem.W.subIn K (.ref c_NoWord) (.type "BaseException") = some true)
    (ty_NoWord : PySem.W.typeIn K (.ref c_NoWord) = some (.type "type"))
    (hd_NoWord : PySem.W.hasDictIn K c_NoWord = true)
    (kc_NoWord : PySem.W.keepIn K (.ref c_NoWord) = true)
    (no_NoWord_word : PySem.W.findIn K (.ref c_NoWord) "word" = some none)
    (ac_FoldError : PySem.W.nsIn K mainGlobals "FoldError" = some (some (.ref c_FoldError)))
    (q_NoWord_NoWord : PySem.W.subIn K (.ref c_NoWord) (.ref c_NoWord) = some true)
    (cx_NoWord_NoWord : PySem.W.subIn K (.ref c_NoWord) (.type "BaseException") = some true ∧ PySem.W.isClsIn K c_NoWord = true ∧ PySem.W.typeIn K (.ref c_NoWord) = some (.type "type"))
    (eq_Automaton : PySem.W.findIn K (.ref c_Automaton) "__eq__" = some (some (.ref f_Fact_eq)))
    (g1_cls : PySem.W.specialIn K (.builtin "object.__class__") "__get__" = some (some (.builtin "getset_descriptor.__get__")))
    (g2_cls : PySem.W.takesIn K (.builtin "object.__class__") = some true)
    (g3_Monoid : PySem.W.findIn K (.ref c_Monoid) "__class__" = some (some (.builtin "object.__class__")))
    (g4_Monoid : PySem.W.mroIn K c_Monoid (.type "object") = some true)
    (g3_Automaton : PySem.W.findIn K (.ref c_Automaton) "__class__" = some (some (.builtin "object.__class__")))
    (g4_Automaton : PySem.W.mroIn K c_Automaton (.type "object") = some true)
    (g3_Language : PySem.W.findIn K (.ref c_Language) "__class__" = some (some (.builtin "object.__class__")))
    (g4_Language : PySem.W.mroIn K c_Language (.type "object") = some true)
    (kt_Automaton_Language : PySem.W.kitOne K (.ref c_Automaton) (.ref c_Language) = some false)
    (kt_Automaton_Automaton : PySem.W.kitOne K (.ref c_Automaton) (.ref c_Automaton) = some true)
    (kt_Language_Language : PySem.W.kitOne K (.ref c_Language) (.ref c_Language) = some true)
    (kt_Monoid_Monoid : PySem.W.kitOne K (.ref c_Monoid) (.ref c_Monoid) = some true)
    (kt_Automaton_Fact : PySem.W.kitOne K (.ref c_Automaton) (.ref c_Fact) = some true)
    (ak_MOST_ELEMENTS : PySem.W.nsIn K mainGlobals "MOST_ELEMENTS" = some (some u_MOST_ELEMENTS))
    (rk_MOST_ELEMENTS : RelV (.int 2000) u_MOST_ELEMENTS)
    (ak_MOST_LETTERS : PySem.W.nsIn K mainGlobals "MOST_LETTERS" = some (some u_MOST_LETTERS))
    (rk_MOST_LETTERS : RelV (.int 6) u_MOST_LETTERS)
    (ak_SIGNS : PySem.W.nsIn K mainGlobals "SIGNS" = some (some u_SIGNS))
    (rk_SIGNS : RelV (.str "abcd") u_SIGNS)
    (ak_MOST_STATES : PySem.W.nsIn K mainGlobals "MOST_STATES" = some (some u_MOST_STATES))
    (rk_MOST_STATES : RelV (.int 40) u_MOST_STATES)
    (ak_MOST_MADE : PySem.W.nsIn K mainGlobals "MOST_MADE" = some (some u_MOST_MADE))
    (rk_MOST_MADE : RelV (.int 500) u_MOST_MADE)
    (ak_MOST_SIGNS : PySem.W.nsIn K mainGlobals "MOST_SIGNS" = some (some u_MOST_SIGNS))
    (rk_MOST_SIGNS : RelV (.int 300) u_MOST_SIGNS)
    (z_len : PySem.W.nsIn K mainGlobals "len" = some none)
    (z_int : PySem.W.nsIn K mainGlobals "int" = some none)
    (z_abs : PySem.W.nsIn K mainGlobals "abs" = some none)
    (z_isinstance : PySem.W.nsIn K mainGlobals "isinstance" = some none)
    (z_tuple : PySem.W.nsIn K mainGlobals "tuple" = some none)
    (z_range : PySem.W.nsIn K mainGlobals "range" = some none)
    (z_enumerate : PySem.W.nsIn K mainGlobals "enumerate" = some none)
    (z_str : PySem.W.nsIn K mainGlobals "str" = some none)
    (z_list : PySem.W.nsIn K mainGlobals "list" = some none)
    (z_bool : PySem.W.nsIn K mainGlobals "bool" = some none)
    (z_all : PySem.W.nsIn K mainGlobals "all" = some none)
    (z_sorted : PySem.W.nsIn K mainGlobals "sorted" = some none)
    (z_set : PySem.W.nsIn K mainGlobals "set" = some none)
    (z_max : PySem.W.nsIn K mainGlobals "max" = some none)
    (z_repr : PySem.W.nsIn K mainGlobals "repr" = some none) :
    Txt ⟨K, mg, f_NoWord_init, PySem.W.fnOf "__init__" "NoWord.__init__" (defArgs s_NoWord_init) (defBody s_NoWord_init) (defScope s_NoWord_init) .none kV_NoWord_init dc_NoWord_init pm_NoWord_init an_NoWord_init cd_NoWord_init ct_NoWord_init, f_NoWord_told, PySem.W.fnOf "told" "NoWord.told" (defArgs s_NoWord_told) (defBody s_NoWord_told) (defScope s_NoWord_told) .none kV_NoWord_told dc_NoWord_told pm_NoWord_told an_NoWord_told cd_NoWord_told ct_NoWord_told, f_Fact_eq, PySem.W.fnOf "__eq__" "Fact.__eq__" (defArgs s_Fact_eq) (defBody s_Fact_eq) (defScope s_Fact_eq) .none kV_Fact_eq dc_Fact_eq pm_Fact_eq an_Fact_eq cd_Fact_eq ct_Fact_eq, f_is_number, PySem.W.fnOf "is_number" "is_number" (defArgs s_is_number) (defBody s_is_number) (defScope s_is_number) .none kV_is_number dc_is_number pm_is_number an_is_number cd_is_number ct_is_number, f_is_sequence, PySem.W.fnOf "is_sequence" "is_sequence" (defArgs s_is_sequence) (defBody s_is_sequence) (defScope s_is_sequence) .none kV_is_sequence dc_is_sequence pm_is_sequence an_is_sequence cd_is_sequence ct_is_sequence, f_check_form, PySem.W.fnOf "check_form" "check_form" (defArgs s_check_form) (defBody s_check_form) (defScope s_check_form) .none kV_check_form dc_check_form pm_check_form an_check_form cd_check_form ct_check_form, f_check_order, PySem.W.fnOf "check_order" "check_order" (defArgs s_check_order) (defBody s_check_order) (defScope s_check_order) .none kV_check_order dc_check_order pm_check_order an_check_order cd_check_order ct_check_order, f_tree_of, PySem.W.fnOf "tree_of" "tree_of" (defArgs s_tree_of) (defBody s_tree_of) (defScope s_tree_of) .none kV_tree_of dc_tree_of pm_tree_of an_tree_of cd_tree_of ct_tree_of, f_left_of, PySem.W.fnOf "left_of" "left_of" (defArgs s_left_of) (defBody s_left_of) (defScope s_left_of) .none kV_left_of dc_left_of pm_left_of an_left_of cd_left_of ct_left_of, f_check_products, PySem.W.fnOf "check_products" "check_products" (defArgs s_check_products) (defBody s_check_products) (defScope s_check_products) .none kV_check_products dc_check_products pm_check_products an_check_products cd_check_products ct_check_products, f_Monoid_init, PySem.W.fnOf "__init__" "Monoid.__init__" (defArgs s_Monoid_init) (defBody s_Monoid_init) (defScope s_Monoid_init) .none kV_Monoid_init dc_Monoid_init pm_Monoid_init an_Monoid_init cd_Monoid_init ct_Monoid_init, f_checked, PySem.W.fnOf "checked" "checked" (defArgs s_checked) (defBody s_checked) (defScope s_checked) .none kV_checked dc_checked pm_checked an_checked cd_checked ct_checked, f_is_below, PySem.W.fnOf "is_below" "is_below" (defArgs s_is_below) (defBody s_is_below) (defScope s_is_below) .none kV_is_below dc_is_below pm_is_below an_is_below cd_is_below ct_is_below, f_check_rows, PySem.W.fnOf "check_rows" "check_rows" (defArgs s_check_rows) (defBody s_check_rows) (defScope s_check_rows) .none kV_check_rows dc_check_rows pm_check_rows an_check_rows cd_check_rows ct_check_rows, f_Automaton_init, PySem.W.fnOf "__init__" "Automaton.__init__" (defArgs s_Automaton_init) (defBody s_Automaton_init) (defScope s_Automaton_init) .none kV_Automaton_init dc_Automaton_init pm_Automaton_init an_Automaton_init cd_Automaton_init ct_Automaton_init, f_Automaton_settle, PySem.W.fnOf "settle" "Automaton.settle" (defArgs s_Automaton_settle) (defBody s_Automaton_settle) (defScope s_Automaton_settle) .none kV_Automaton_settle dc_Automaton_settle pm_Automaton_settle an_Automaton_settle cd_Automaton_settle ct_Automaton_settle, f_Automaton_facts, PySem.W.fnOf "facts" "Automaton.facts" (defArgs s_Automaton_facts) (defBody s_Automaton_facts) (defScope s_Automaton_facts) .none kV_Automaton_facts dc_Automaton_facts pm_Automaton_facts an_Automaton_facts cd_Automaton_facts ct_Automaton_facts, f_Language_init, PySem.W.fnOf "__init__" "Language.__init__" (defArgs s_Language_init) (defBody s_Language_init) (defScope s_Language_init) .none kV_Language_init dc_Language_init pm_Language_init an_Language_init cd_Language_init ct_Language_init, f_table_of, PySem.W.fnOf "table_of" "table_of" (defArgs s_table_of) (defBody s_table_of) (defScope s_table_of) .none kV_table_of dc_table_of pm_table_of an_table_of cd_table_of ct_table_of, f_check_word, PySem.W.fnOf "check_word" "check_word" (defArgs s_check_word) (defBody s_check_word) (defScope s_check_word) .none kV_check_word dc_check_word pm_check_word an_check_word cd_check_word ct_check_word, f_accepts, PySem.W.fnOf "accepts" "accepts" (defArgs s_accepts) (defBody s_accepts) (defScope s_accepts) .none kV_accepts dc_accepts pm_accepts an_accepts cd_accepts ct_accepts, f__law_source, PySem.W.fnOf "_law_source" "_law_source" (defArgs s__law_source) (defBody s__law_source) (defScope s__law_source) .none kV__law_source dc__law_source pm__law_source an__law_source cd__law_source ct__law_source, f__law_draw, PySem.W.fnOf "_law_draw" "_law_draw" (defArgs s__law_draw) (defBody s__law_draw) (defScope s__law_draw) .none kV__law_draw dc__law_draw pm__law_draw an__law_draw cd__law_draw ct__law_draw, f__law_pick, PySem.W.fnOf "_law_pick" "_law_pick" (defArgs s__law_pick) (defBody s__law_pick) (defScope s__law_pick) .none kV__law_pick dc__law_pick pm__law_pick an__law_pick cd__law_pick ct__law_pick, f__law_moves, PySem.W.fnOf "_law_moves" "_law_moves" (defArgs s__law_moves) (defBody s__law_moves) (defScope s__law_moves) .none kV__law_moves dc__law_moves pm__law_moves an__law_moves cd__law_moves ct__law_moves, f__law_plan, PySem.W.fnOf "_law_plan" "_law_plan" (defArgs s__law_plan) (defBody s__law_plan) (defScope s__law_plan) .none kV__law_plan dc__law_plan pm__law_plan an__law_plan cd__law_plan ct__law_plan, f__law_all_words, PySem.W.fnOf "_law_all_words" "_law_all_words" (defArgs s__law_all_words) (defBody s__law_all_words) (defScope s__law_all_words) .none kV__law_all_words dc__law_all_words pm__law_all_words an__law_all_words cd__law_all_words ct__law_all_words, f__law_led, PySem.W.fnOf "_law_led" "_law_led" (defArgs s__law_led) (defBody s__law_led) (defScope s__law_led) .none kV__law_led dc__law_led pm__law_led an__law_led cd__law_led ct__law_led, f__law_has, PySem.W.fnOf "_law_has" "_law_has" (defArgs s__law_has) (defBody s__law_has) (defScope s__law_has) .none kV__law_has dc__law_has pm__law_has an__law_has cd__law_has ct__law_has, f__law_acts, PySem.W.fnOf "_law_acts" "_law_acts" (defArgs s__law_acts) (defBody s__law_acts) (defScope s__law_acts) .none kV__law_acts dc__law_acts pm__law_acts an__law_acts cd__law_acts ct__law_acts, f__law_refused, PySem.W.fnOf "_law_refused" "_law_refused" (defArgs s__law_refused) (defBody s__law_refused) (defScope s__law_refused) .none kV__law_refused dc__law_refused pm__law_refused an__law_refused cd__law_refused ct__law_refused, f__law_right, PySem.W.fnOf "_law_right" "_law_right" (defArgs s__law_right) (defBody s__law_right) (defScope s__law_right) .none kV__law_right dc__law_right pm__law_right an__law_right cd__law_right ct__law_right, f_law, PySem.W.fnOf "law" "law" (defArgs s_law) (defBody s_law) (defScope s_law) .none kV_law dc_law pm_law an_law cd_law ct_law, c_Fact, c_Monoid, c_Automaton, c_Language, c_NoWord, c_FoldError⟩ :=
  {F_NoWord_init := fun_mk (st := s_NoWord_init) l_NoWord_init e_NoWord_init k_NoWord_init,
   b_NoWord_init := Fun.binds (st := s_NoWord_init) (ps := ["self", "word"]) (fun_mk (st := s_NoWord_init) l_NoWord_init e_NoWord_init k_NoWord_init) fun _ _ _ _ _ _ us hl => match us, hl with | [_, _], _ => rfl,
   xm_NoWord_told := ⟨a_NoWord_told, t_NoWord_told, k_NoWord_told⟩,
   F_NoWord_told := fun_mk (st := s_NoWord_told) l_NoWord_told e_NoWord_told k_NoWord_told,
   b_NoWord_told := Fun.binds (st := s_NoWord_told) (ps := ["self"]) (fun_mk (st := s_NoWord_told) l_NoWord_told e_NoWord_told k_NoWord_told) fun _ _ _ _ _ _ us hl => match us, hl with | [_], _ => rfl,
   m_Fact_eq := ⟨a_Fact_eq, i_Fact_eq, k_Fact_eq⟩,
   F_Fact_eq := fun_mk (st := s_Fact_eq) l_Fact_eq e_Fact_eq k_Fact_eq,
   b_Fact_eq := Fun.binds (st := s_Fact_eq) (ps := ["self", "other"]) (fun_mk (st := s_Fact_eq) l_Fact_eq e_Fact_eq k_Fact_eq) fun _ _ _ _ _ _ us hl => match us, hl with | [_, _], _ => rfl,
   g_is_number := PySem.W.mg_of X Ns a_is_number,
   F_is_number := fun_mk (st := s_is_number) l_is_number e_is_number k_is_number,
   b_is_number := Fun.binds (st := s_is_number) (ps := ["thing"]) (fun_mk (st := s_is_number) l_is_number e_is_number k_is_number) fun _ _ _ _ _ _ us hl => match us, hl with | [_], _ => rfl,
   g_is_sequence := PySem.W.mg_of X Ns a_is_sequence,
   F_is_sequence := fun_mk (st := s_is_sequence) l_is_sequence e_is_sequence k_is_sequence,
   b_is_sequence := Fun.binds (st := s_is_sequence) (ps := ["thing"]) (fun_mk (st := s_is_sequence) l_is_sequence e_is_sequence k_is_sequence) fun _ _ _ _ _ _ us hl => match us, hl with | [_], _ => rfl,
   g_check_form := PySem.W.mg_of X Ns a_check_form,
   F_check_form := fun_mk (st := s_check_form) l_check_form e_check_form k_check_form,
   b_check_form := Fun.binds (st := s_check_form) (ps := ["right"]) (fun_mk (st := s_check_form) l_check_form e_check_form k_check_form) fun _ _ _ _ _ _ us hl => match us, hl with | [_], _ => rfl,
   g_check_order := PySem.W.mg_of X Ns a_check_order,
   F_check_order := fun_mk (st := s_check_order) l_check_order e_check_order k_check_order,
   b_check_order := Fun.binds (st := s_check_order) (ps := ["right"]) (fun_mk (st := s_check_order) l_check_order e_check_order k_check_order) fun _ _ _ _ _ _ us hl => match us, hl with | [_], _ => rfl,
   g_tree_of := PySem.W.mg_of X Ns a_tree_of,
   F_tree_of := fun_mk (st := s_tree_of) l_tree_of e_tree_of k_tree_of,
   b_tree_of := Fun.binds (st := s_tree_of) (ps := ["right"]) (fun_mk (st := s_tree_of) l_tree_of e_tree_of k_tree_of) fun _ _ _ _ _ _ us hl => match us, hl with | [_], _ => rfl,
   g_left_of := PySem.W.mg_of X Ns a_left_of,
   F_left_of := fun_mk (st := s_left_of) l_left_of e_left_of k_left_of,
   b_left_of := Fun.binds (st := s_left_of) (ps := ["right", "tree"]) (fun_mk (st := s_left_of) l_left_of e_left_of k_left_of) fun _ _ _ _ _ _ us hl => match us, hl with | [_, _], _ => rfl,
   g_check_products := PySem.W.mg_of X Ns a_check_products,
   F_check_products := fun_mk (st := s_check_products) l_check_products e_check_products k_check_products,
   b_check_products := Fun.binds (st := s_check_products) (ps := ["right", "left"]) (fun_mk (st := s_check_products) l_check_products e_check_products k_check_products) fun _ _ _ _ _ _ us hl => match us, hl with | [_, _], _ => rfl,
   F_Monoid_init := fun_mk (st := s_Monoid_init) l_Monoid_init e_Monoid_init k_Monoid_init,
   b_Monoid_init := Fun.binds (st := s_Monoid_init) (ps := ["self", "right"]) (fun_mk (st := s_Monoid_init) l_Monoid_init e_Monoid_init k_Monoid_init) fun _ _ _ _ _ _ us hl => match us, hl with | [_, _], _ => rfl,
   g_checked := PySem.W.mg_of X Ns a_checked,
   F_checked := fun_mk (st := s_checked) l_checked e_checked k_checked,
   b_checked := Fun.binds (st := s_checked) (ps := ["monoid"]) (fun_mk (st := s_checked) l_checked e_checked k_checked) fun _ _ _ _ _ _ us hl => match us, hl with | [_], _ => rfl,
   g_is_below := PySem.W.mg_of X Ns a_is_below,
   F_is_below := fun_mk (st := s_is_below) l_is_below e_is_below k_is_below,
   b_is_below := Fun.binds (st := s_is_below) (ps := ["thing", "many"]) (fun_mk (st := s_is_below) l_is_below e_is_below k_is_below) fun _ _ _ _ _ _ us hl => match us, hl with | [_, _], _ => rfl,
   g_check_rows := PySem.W.mg_of X Ns a_check_rows,
   F_check_rows := fun_mk (st := s_check_rows) l_check_rows e_check_rows k_check_rows,
   b_check_rows := Fun.binds (st := s_check_rows) (ps := ["rows"]) (fun_mk (st := s_check_rows) l_check_rows e_check_rows k_check_rows) fun _ _ _ _ _ _ us hl => match us, hl with | [_], _ => rfl,
   F_Automaton_init := fun_mk (st := s_Automaton_init) l_Automaton_init e_Automaton_init k_Automaton_init,
   b_Automaton_init := Fun.binds (st := s_Automaton_init) (ps := ["self", "rows", "start", "accepted"]) (fun_mk (st := s_Automaton_init) l_Automaton_init e_Automaton_init k_Automaton_init) fun _ _ _ _ _ _ us hl => match us, hl with | [_, _, _, _], _ => rfl,
   m_Automaton_settle := ⟨a_Automaton_settle, i_Automaton_settle, k_Automaton_settle⟩,
   F_Automaton_settle := fun_mk (st := s_Automaton_settle) l_Automaton_settle e_Automaton_settle k_Automaton_settle,
   b_Automaton_settle := Fun.binds (st := s_Automaton_settle) (ps := ["self", "rows", "start", "accepted"]) (fun_mk (st := s_Automaton_settle) l_Automaton_settle e_Automaton_settle k_Automaton_settle) fun _ _ _ _ _ _ us hl => match us, hl with | [_, _, _, _], _ => rfl,
   m_Automaton_facts := ⟨a_Automaton_facts, i_Automaton_facts, k_Automaton_facts⟩,
   F_Automaton_facts := fun_mk (st := s_Automaton_facts) l_Automaton_facts e_Automaton_facts k_Automaton_facts,
   b_Automaton_facts := Fun.binds (st := s_Automaton_facts) (ps := ["self"]) (fun_mk (st := s_Automaton_facts) l_Automaton_facts e_Automaton_facts k_Automaton_facts) fun _ _ _ _ _ _ us hl => match us, hl with | [_], _ => rfl,
   F_Language_init := fun_mk (st := s_Language_init) l_Language_init e_Language_init k_Language_init,
   b_Language_init := Fun.binds (st := s_Language_init) (ps := ["self", "monoid", "accepted"]) (fun_mk (st := s_Language_init) l_Language_init e_Language_init k_Language_init) fun _ _ _ _ _ _ us hl => match us, hl with | [_, _, _], _ => rfl,
   g_table_of := PySem.W.mg_of X Ns a_table_of,
   F_table_of := fun_mk (st := s_table_of) l_table_of e_table_of k_table_of,
   b_table_of := Fun.binds (st := s_table_of) (ps := ["thing"]) (fun_mk (st := s_table_of) l_table_of e_table_of k_table_of) fun _ _ _ _ _ _ us hl => match us, hl with | [_], _ => rfl,
   g_check_word := PySem.W.mg_of X Ns a_check_word,
   F_check_word := fun_mk (st := s_check_word) l_check_word e_check_word k_check_word,
   b_check_word := Fun.binds (st := s_check_word) (ps := ["word", "letters", "most"]) (fun_mk (st := s_check_word) l_check_word e_check_word k_check_word) fun _ _ _ _ _ _ us hl => match us, hl with | [_, _, _], _ => rfl,
   g_accepts := PySem.W.mg_of X Ns a_accepts,
   F_accepts := fun_mk (st := s_accepts) l_accepts e_accepts k_accepts,
   b_accepts := Fun.binds (st := s_accepts) (ps := ["thing", "word"]) (fun_mk (st := s_accepts) l_accepts e_accepts k_accepts) fun _ _ _ _ _ _ us hl => match us, hl with | [_, _], _ => rfl,
   g__law_source := PySem.W.mg_of X Ns a__law_source,
   F__law_source := fun_mk (st := s__law_source) l__law_source e__law_source k__law_source,
   b__law_source := Fun.binds (st := s__law_source) (ps := ["_law_cell"]) (fun_mk (st := s__law_source) l__law_source e__law_source k__law_source) fun _ _ _ _ _ _ us hl => match us, hl with | [_], _ => rfl,
   g__law_draw := PySem.W.mg_of X Ns a__law_draw,
   F__law_draw := fun_mk (st := s__law_draw) l__law_draw e__law_draw k__law_draw,
   b__law_draw := Fun.binds (st := s__law_draw) (ps := ["_law_source_here", "_law_many"]) (fun_mk (st := s__law_draw) l__law_draw e__law_draw k__law_draw) fun _ _ _ _ _ _ us hl => match us, hl with | [_, _], _ => rfl,
   g__law_pick := PySem.W.mg_of X Ns a__law_pick,
   F__law_pick := fun_mk (st := s__law_pick) l__law_pick e__law_pick k__law_pick,
   b__law_pick := Fun.binds (st := s__law_pick) (ps := ["_law_source_here", "_law_some"]) (fun_mk (st := s__law_pick) l__law_pick e__law_pick k__law_pick) fun _ _ _ _ _ _ us hl => match us, hl with | [_, _], _ => rfl,
   g__law_moves := PySem.W.mg_of X Ns a__law_moves,
   F__law_moves := fun_mk (st := s__law_moves) l__law_moves e__law_moves k__law_moves,
   b__law_moves := Fun.binds (st := s__law_moves) (ps := ["_law_source_here", "_law_many", "_law_letters"]) (fun_mk (st := s__law_moves) l__law_moves e__law_moves k__law_moves) fun _ _ _ _ _ _ us hl => match us, hl with | [_, _, _], _ => rfl,
   g__law_plan := PySem.W.mg_of X Ns a__law_plan,
   F__law_plan := fun_mk (st := s__law_plan) l__law_plan e__law_plan k__law_plan,
   b__law_plan := Fun.binds (st := s__law_plan) (ps := ["_law_source_here", "_law_most"]) (fun_mk (st := s__law_plan) l__law_plan e__law_plan k__law_plan) fun _ _ _ _ _ _ us hl => match us, hl with | [_, _], _ => rfl,
   g__law_all_words := PySem.W.mg_of X Ns a__law_all_words,
   F__law_all_words := fun_mk (st := s__law_all_words) l__law_all_words e__law_all_words k__law_all_words,
   b__law_all_words := Fun.binds (st := s__law_all_words) (ps := ["_law_letters", "_law_most"]) (fun_mk (st := s__law_all_words) l__law_all_words e__law_all_words k__law_all_words) fun _ _ _ _ _ _ us hl => match us, hl with | [_, _], _ => rfl,
   g__law_led := PySem.W.mg_of X Ns a__law_led,
   F__law_led := fun_mk (st := s__law_led) l__law_led e__law_led k__law_led,
   b__law_led := Fun.binds (st := s__law_led) (ps := ["_law_plan_here", "_law_word"]) (fun_mk (st := s__law_led) l__law_led e__law_led k__law_led) fun _ _ _ _ _ _ us hl => match us, hl with | [_, _], _ => rfl,
   g__law_has := PySem.W.mg_of X Ns a__law_has,
   F__law_has := fun_mk (st := s__law_has) l__law_has e__law_has k__law_has,
   b__law_has := Fun.binds (st := s__law_has) (ps := ["_law_plan_here", "_law_word"]) (fun_mk (st := s__law_has) l__law_has e__law_has k__law_has) fun _ _ _ _ _ _ us hl => match us, hl with | [_, _], _ => rfl,
   g__law_acts := PySem.W.mg_of X Ns a__law_acts,
   F__law_acts := fun_mk (st := s__law_acts) l__law_acts e__law_acts k__law_acts,
   b__law_acts := Fun.binds (st := s__law_acts) (ps := ["_law_moves_here"]) (fun_mk (st := s__law_acts) l__law_acts e__law_acts k__law_acts) fun _ _ _ _ _ _ us hl => match us, hl with | [_], _ => rfl,
   g__law_refused := PySem.W.mg_of X Ns a__law_refused,
   F__law_refused := fun_mk (st := s__law_refused) l__law_refused e__law_refused k__law_refused,
   b__law_refused := Fun.binds (st := s__law_refused) (ps := ["_law_thing", "_law_word"]) (fun_mk (st := s__law_refused) l__law_refused e__law_refused k__law_refused) fun _ _ _ _ _ _ us hl => match us, hl with | [_, _], _ => rfl,
   g__law_right := PySem.W.mg_of X Ns a__law_right,
   F__law_right := fun_mk (st := s__law_right) l__law_right e__law_right k__law_right,
   b__law_right := Fun.binds (st := s__law_right) (ps := ["_law_source_here"]) (fun_mk (st := s__law_right) l__law_right e__law_right k__law_right) fun _ _ _ _ _ _ us hl => match us, hl with | [_], _ => rfl,
   g_law := PySem.W.mg_of X Ns a_law,
   F_law := fun_mk (st := s_law) l_law e_law k_law,
   b_law := Fun.binds (st := s_law) (ps := ["_law_script"]) (fun_mk (st := s_law) l_law e_law k_law) fun _ _ _ _ _ _ us hl => match us, hl with | [_], _ => rfl,
   cl_Fact := ⟨pg_Fact, hd_Fact, po_Fact, sa_Fact⟩,
   gc_Fact := PySem.W.mg_of X Ns ac_Fact,
   cl_Monoid := ⟨pg_Monoid, hd_Monoid, po_Monoid, sa_Monoid⟩,
   gc_Monoid := PySem.W.mg_of X Ns ac_Monoid,
   mk_Monoid := ⟨mk_Monoid, a_Monoid_init, i_Monoid_init, kc_Monoid⟩,
   na_Monoid_right := na_Monoid_right,
   na_Monoid_tree := na_Monoid_tree,
   na_Monoid_lefts := na_Monoid_lefts,
   na_Monoid_memory := na_Monoid_memory,
   cl_Automaton := ⟨pg_Automaton, hd_Automaton, po_Automaton, sa_Automaton⟩,
   gc_Automaton := PySem.W.mg_of X Ns ac_Automaton,
   mk_Automaton := ⟨mk_Automaton, a_Automaton_init, i_Automaton_init, kc_Automaton⟩,
   na_Automaton_rows := na_Automaton_rows,
   na_Automaton_start := na_Automaton_start,
   na_Automaton_accepted := na_Automaton_accepted,
   na_Automaton_memory := na_Automaton_memory,
   cl_Language := ⟨pg_Language, hd_Language, po_Language, sa_Language⟩,
   gc_Language := PySem.W.mg_of X Ns ac_Language,
   mk_Language := ⟨mk_Language, a_Language_init, i_Language_init, kc_Language⟩,
   na_Language_monoid := na_Language_monoid,
   na_Language_accepted := na_Language_accepted,
   na_Language_memory := na_Language_memory,
   gc_NoWord := PySem.W.mg_of X Ns ac_NoWord,
   oe_NoWord := ⟨⟨_, _, _, _, _, _, _, _, _, _, _, _, _, _, _, x_NoWord, rv_NoWord⟩, sa_NoWord, ex_NoWord, ty_NoWord, kc_NoWord⟩,
   xf_NoWord := ⟨ga_NoWord, gg_NoWord, ex_NoWord, hd_NoWord⟩,
   no_NoWord_word := no_NoWord_word,
   in_NoWord := ⟨a_NoWord_init, t_NoWord_init⟩,
   gc_FoldError := PySem.W.mg_of X Ns ac_FoldError,
   exm_NoWord_NoWord := exm_of cx_NoWord_NoWord.1 cx_NoWord_NoWord.2.1 cx_NoWord_NoWord.2.2 q_NoWord_NoWord,
   eq_Automaton := ⟨eq_Automaton, i_Fact_eq⟩,
   is_Monoid := ⟨⟨pg_Monoid, hd_Monoid, po_Monoid, sa_Monoid⟩, g3_Monoid, g1_cls, g2_cls, g4_Monoid⟩,
   is_Automaton := ⟨⟨pg_Automaton, hd_Automaton, po_Automaton, sa_Automaton⟩, g3_Automaton, g1_cls, g2_cls, g4_Automaton⟩,
   is_Language := ⟨⟨pg_Language, hd_Language, po_Language, sa_Language⟩, g3_Language, g1_cls, g2_cls, g4_Language⟩,
   kt_Automaton_Language := kt_Automaton_Language,
   kt_Automaton_Automaton := kt_Automaton_Automaton,
   kt_Language_Language := kt_Language_Language,
   kt_Monoid_Monoid := kt_Monoid_Monoid,
   kt_Automaton_Fact := kt_Automaton_Fact,
   k_MOST_ELEMENTS := ⟨_, PySem.W.mg_of X Ns ak_MOST_ELEMENTS, rk_MOST_ELEMENTS⟩,
   k_MOST_LETTERS := ⟨_, PySem.W.mg_of X Ns ak_MOST_LETTERS, rk_MOST_LETTERS⟩,
   k_SIGNS := ⟨_, PySem.W.mg_of X Ns ak_SIGNS, rk_SIGNS⟩,
   k_MOST_STATES := ⟨_, PySem.W.mg_of X Ns ak_MOST_STATES, rk_MOST_STATES⟩,
   k_MOST_MADE := ⟨_, PySem.W.mg_of X Ns ak_MOST_MADE, rk_MOST_MADE⟩,
   k_MOST_SIGNS := ⟨_, PySem.W.mg_of X Ns ak_MOST_SIGNS, rk_MOST_SIGNS⟩,
   n_len := PySem.W.mg_none_of X Ns z_len,
   n_int := PySem.W.mg_none_of X Ns z_int,
   n_abs := PySem.W.mg_none_of X Ns z_abs,
   n_isinstance := PySem.W.mg_none_of X Ns z_isinstance,
   n_tuple := PySem.W.mg_none_of X Ns z_tuple,
   n_range := PySem.W.mg_none_of X Ns z_range,
   n_enumerate := PySem.W.mg_none_of X Ns z_enumerate,
   n_str := PySem.W.mg_none_of X Ns z_str,
   n_list := PySem.W.mg_none_of X Ns z_list,
   n_bool := PySem.W.mg_none_of X Ns z_bool,
   n_all := PySem.W.mg_none_of X Ns z_all,
   n_sorted := PySem.W.mg_none_of X Ns z_sorted,
   n_set := PySem.W.mg_none_of X Ns z_set,
   n_max := PySem.W.mg_none_of X Ns z_max,
   n_repr := PySem.W.mg_none_of X Ns z_repr}
end K67

set_option Elab.async false
set_option linter.all false
set_option maxRecDepth 100000
set_option maxHeartbeats 4000000
namespace K67
open PySem PySem.Spec PyProof.Rows L2 LX M67
local macro_rules | `(tactic| walk_at "hp") => `(tactic| first | assumption | exact upd_same | (refine up_new (by assumption) ?_; walk_at "hp") | (refine up_ne (by first | assumption | (exact Ne.symm (by assumption))) ?_; walk_at "hp") | (refine up_mut (by assumption) (by intro z; cases z) ?_; walk_at "hp"))
local macro_rules | `(tactic| walk_at "w1") => `(tactic| first
  | (with_reducible refine w_seq ?_) | (with_reducible refine w_asg ?_) | (with_reducible refine w_name ?_) | (with_reducible refine w_ret ?_) | (with_reducible refine w_drop ?_) | (with_reducible refine w_ifS ?_)
  | (with_reducible refine w_var (by with_unfolding_all exact rfl) ?_) | (with_reducible refine w_c ?_) | (with_reducible refine w_op ?_) | (with_reducible refine w_test ?_) | (with_reducible refine w_B ?_)
  | (with_reducible refine w_bl ?_) | (with_reducible refine w_cons ?_) | (with_reducible refine w_nil ?_) | (with_reducible refine w_cb ?_) | (with_reducible refine w_call ?_) | (with_reducible refine w_callS ?_)
  | (with_reducible refine w_addI ?_) | (with_reducible refine w_subI ?_) | (with_reducible refine w_ltI ?_) | (with_reducible refine w_leI ?_) | (with_reducible refine w_gtI ?_) | (with_reducible refine w_geI ?_)
  | (with_reducible refine w_tAnd ?_) | (with_reducible refine w_tOr ?_) | (with_reducible refine w_tNot ?_) | (with_reducible refine w_andV ?_) | (with_reducible refine w_orV ?_) | (with_reducible refine w_notV ?_) | (with_reducible refine w_if ?_)
  | (with_reducible refine w_un ?_) | (with_reducible refine w_neg ?_) | (with_reducible refine w_intI ?_) | (with_reducible refine w_intB ?_) | (with_reducible refine w_abs ?_)
  | (with_reducible refine w_eq (by with_unfolding_all exact rfl) ?_) | (with_reducible refine w_ne (by with_unfolding_all exact rfl) ?_) | (with_reducible refine w_isNone ?_) | (with_reducible refine w_notNone ?_)
  | (with_reducible refine w_tup ?_) | (with_reducible refine w_lst ?_) | (with_reducible refine w_sl ?_) | (with_reducible refine w_noPart ?_) | (with_reducible refine w_part ?_) | (with_reducible refine w_partI ?_)
  | (with_reducible refine w_fld0 ?_) | (with_reducible refine w_rz ?_)
  | (with_reducible refine w_next ?_) | (with_reducible refine w_brk ?_) | (with_reducible refine w_cont ?_) | (with_reducible refine w_retN ?_))
local macro_rules | `(tactic| walk_at "w") => `(tactic| repeat walk_at "w1")
local macro_rules | `(tactic| walk_at "u1") => `(tactic| first | walk_at "w1" | (with_reducible refine w_gsub ?_) | (with_reducible refine w_par ?_) | (with_reducible refine w_par3 ?_) | (with_reducible refine w_pr2 ?_) | (with_reducible refine w_pr3 ?_) | (with_reducible refine w_then ?_) | (with_reducible refine w_for ?_) | (with_reducible refine w_rng1 ?_) | (with_reducible refine w_enumS ?_) | (with_reducible refine w_iList ?_) | (with_reducible refine w_iTup ?_) | (with_reducible refine w_iStr ?_) | (with_reducible refine w_make ?_) | (with_reducible refine w_lc ?_) | (with_reducible refine w_iEnum ?_) | (with_reducible refine w_iEnumT ?_) | (with_reducible refine w_chain ?_) | (with_reducible refine w_bm ?_))
local macro_rules | `(tactic| walk_at "u") => `(tactic| repeat walk_at "u1")
section
variable {P : Program} {w : World} {base : Heap} {G : Gx}
/-! the law's source of ints -/
def sp__law_source (G : Gx) : Sp := fun vs H Q _ => vs.length = 1 ∧ ∃ i : Int, vs = [.int i] ∧ ∀ p H', H p = none → SrcAt H' p → Same H H' → Q (.ref p) H'
def t__law_source (G : Gx) (W : WX) : TS :=
  tSeq (tAsg (tCB rAbs (tCons (tVar 0) tNil)) (gName 0))
  (tRet (tLst (tCons (tOp rMulI (tVar 0) (tCB rInt (tCons (tOp rGeI (tVar 0) (tOp rPowI (tC (.int 10)) (tC (.int 18)))) tNil))) (tCons (tOp rModI (tCB rInt (tCons (tVar 0) tNil)) (tC (.int 2147483587))) (tCons (tC (.int 0)) tNil)))))
theorem pure__law_source (T : Txt G) (vs : List V) (H : Hp) (Q : VK) (E : XK) (h : sp__law_source G vs H Q E) : t__law_source G (fun cls d _ H => E cls d H) { nx := fun _ H' => Q .non H', rt := Q } (start ["_law_cell"] vs) H := by
  obtain ⟨_, i, rfl, k⟩ := h
  unfold t__law_source
  walk_at "u"
  refine w_powI ⟨by decide, by decide, by decide⟩ ?_
  walk_at "u"
  refine w_mulI (.inr (b01 _)) ?_
  walk_at "u"
  refine w_modI (by decide) ?_
  walk_at "u"
  refine ⟨by show 3 ≤ sizeLine; decide, fun p hp => k p _ hp ⟨_, _, _, upd_same⟩ (same_new (Same.refl H) hp)⟩
theorem ok__law_source (T : Txt G) : FnOk P w G.K G.mg base (L2.CX P w) 1 G.f__law_source G.d__law_source ["_law_cell"] (sp__law_source G) := by
  refine T.F__law_source.okX sc__law_source (fun _ _ _ _ h => h.1) (fun cdv A outer s H vs Q E hr h => ⟨t__law_source G (fun cls d _ H => E cls d H), ?_, pure__law_source T vs H Q E h⟩)
  have tk : Takes (cxOf (L2.CX P w) P w G.K G.mg base ["_law_cell"] "_law_source" (defScope s__law_source) G.f__law_source cdv A outer s H E) (fun cls d _ H => E cls d H) := takes_of rfl rfl rfl rfl
  exact (pss_cons (ps_set (i := 0) sc__law_source.nd rfl (by first | exact Or.inl rfl | exact Or.inr rfl) (pe_callB c_abs (by rfl) T.n_abs boot_abs (pa_cons (pv 0) pa_nil)))
    (pss_one (ps_ret (pe_lst (pa_cons (pe_op o_mulI (pv 0) (pe_callTy c_int (by rfl) T.n_int boot_int (pa_cons (pe_cmpR o_geI (pv 0) (pe_op o_powI pe_int pe_int) (nomark _)) pa_nil))) (pa_cons (pe_op o_modI (pe_callTy c_int (by rfl) T.n_int boot_int (pa_cons (pv 0) pa_nil)) pe_int) (pa_cons pe_int pa_nil)))))))

def sp__law_draw (G : Gx) : Sp := fun vs H Q _ => vs.length = 2 ∧ ∃ (s : Addr) (n : Int), vs = [.ref s, .int n] ∧ SrcAt H s ∧ 0 < n ∧ n < 1073741824 ∧ ∀ r H', 0 ≤ r → r < n → SrcAt H' s → But s H H' → Q (.int r) H'
def t__law_draw (G : Gx) (W : WX) : TS :=
  tSeq (tIfS (tTest (tOp rGtI (tOp (rIxL G.K) (tVar 0) (tC (.int 0))) (tC (.int 0)))) (tSeq (tAsg (tOp rModI (tCB rInt (tCons (tOp (rIxL G.K) (tVar 0) (tC (.int 0))) tNil)) (tVar 1)) (gName 3))
  (tSeq (tAsg (tOp rDivI (tOp (rIxL G.K) (tVar 0) (tC (.int 0))) (tVar 1)) (gSub (tVar 0) (tC (.int 0)) rSetL))
  (tRet (tVar 3)))) tNext)
  (tSeq (tAsg (tOp rAddI (tOp (rIxL G.K) (tVar 0) (tC (.int 2))) (tC (.int 1))) (gSub (tVar 0) (tC (.int 2)) rSetL))
  (tSeq (tAsg (tOp rModI (tCB rInt (tCons (tOp rMulI (tOp rAddI (tOp rAddI (tOp (rIxL G.K) (tVar 0) (tC (.int 1))) (tOp rMulI (tC (.int 7919)) (tOp (rIxL G.K) (tVar 0) (tC (.int 2))))) (tC (.int 13))) (tC (.int 48271))) tNil)) (tC (.int 2147483629))) (gName 2))
  (tSeq (tAsg (tOp rModI (tCB rInt (tCons (tOp rMulI (tVar 2) (tOp rAddI (tOp rDivI (tVar 2) (tC (.int 1019))) (tC (.int 69621)))) tNil)) (tC (.int 2147483579))) (gName 2))
  (tRet (tOp rModI (tCB rInt (tCons (tOp rDivI (tOp rModI (tCB rInt (tCons (tOp rMulI (tVar 2) (tOp rAddI (tOp rDivI (tVar 2) (tC (.int 2003))) (tC (.int 40692)))) tNil)) (tC (.int 2147483549))) (tC (.int 3))) tNil)) (tVar 1))))))
theorem pure__law_draw (T : Txt G) (vs : List V) (H : Hp) (Q : VK) (E : XK) (h : sp__law_draw G vs H Q E) : t__law_draw G (fun cls d _ H => E cls d H) { nx := fun _ H' => Q .non H', rt := Q } (start ["_law_source_here", "_law_many", "_law_mixed", "_law_digit"] vs) H := by
  obtain ⟨_, s, n, rfl, ⟨a, b, c, hs⟩, h0, hn, k⟩ := h
  unfold t__law_draw
  walk_at "u"
  refine w_ixL (SqL.of hs) rfl ?_
  walk_at "u"
  refine w_ite (fun _ => ?_) fun _ => ?_
  · walk_at "u"
    refine w_ixL (SqL.of hs) rfl ?_
    walk_at "u"
    refine w_modI h0 ?_
    walk_at "u"
    refine w_ixL (SqL.of hs) rfl ?_
    walk_at "u"
    refine w_divI ⟨h0, hn⟩ ?_
    walk_at "u"
    refine w_setL hs rfl ?_
    walk_at "u"
    exact k _ _ (Int.emod_nonneg _ (by omega)) (Int.emod_lt_of_pos _ h0) ⟨_, _, _, upd_same⟩ But.at_
  · walk_at "u"
    refine w_ixL (SqL.of hs) rfl ?_
    walk_at "u"
    refine w_setL hs rfl ?_
    walk_at "u"
    refine w_ixL (SqL.of upd_same) rfl ?_
    walk_at "u"
    refine w_ixL (SqL.of upd_same) rfl ?_
    walk_at "u"
    refine w_mulI (.inl (by decide)) ?_
    walk_at "u"
    refine w_mulI (.inr (by decide)) ?_
    walk_at "u"
    refine w_modI (by decide) ?_
    walk_at "u"
    have m1 : ∀ x : Int, 0 ≤ x % 2147483629 ∧ x % 2147483629 < 2147483629 := fun x => ⟨Int.emod_nonneg _ (by decide), Int.emod_lt_of_pos _ (by decide)⟩
    have m2 : ∀ x : Int, 0 ≤ x % 2147483579 ∧ x % 2147483579 < 2147483579 := fun x => ⟨Int.emod_nonneg _ (by decide), Int.emod_lt_of_pos _ (by decide)⟩
    refine w_divI ⟨by decide, by decide⟩ ?_
    walk_at "u"
    refine w_mulI (.inl ⟨by have := m1 ((b + 7919 * (c + 1) + 13) * 48271); omega, by have := m1 ((b + 7919 * (c + 1) + 13) * 48271); omega⟩) ?_
    walk_at "u"
    refine w_modI (by decide) ?_
    walk_at "u"
    refine w_divI ⟨by decide, by decide⟩ ?_
    walk_at "u"
    refine w_mulI (.inl ?_) ?_
    · generalize (b + 7919 * (c + 1) + 13) * 48271 % 2147483629 * ((b + 7919 * (c + 1) + 13) * 48271 % 2147483629 / 1019 + 69621) = z
      have := m2 z
      omega
    walk_at "u"
    refine w_modI (by decide) ?_
    walk_at "u"
    refine w_divI ⟨by decide, by decide⟩ ?_
    walk_at "u"
    refine w_modI h0 ?_
    walk_at "u"
    exact k _ _ (Int.emod_nonneg _ (by omega)) (Int.emod_lt_of_pos _ h0) ⟨_, _, _, upd_same⟩ But.at_
theorem ok__law_draw (T : Txt G) : FnOk P w G.K G.mg base (L2.CX P w) 1 G.f__law_draw G.d__law_draw ["_law_source_here", "_law_many"] (sp__law_draw G) := by
  refine T.F__law_draw.okX sc__law_draw (fun _ _ _ _ h => h.1) (fun cdv A outer s H vs Q E hr h => ⟨t__law_draw G (fun cls d _ H => E cls d H), ?_, pure__law_draw T vs H Q E h⟩)
  have tk : Takes (cxOf (L2.CX P w) P w G.K G.mg base ["_law_source_here", "_law_many", "_law_mixed", "_law_digit"] "_law_draw" (defScope s__law_draw) G.f__law_draw cdv A outer s H E) (fun cls d _ H => E cls d H) := takes_of rfl rfl rfl rfl
  exact (pss_cons (ps_if (pt_cmpR o_gtI (pe_ix ix_list (pv 0) pe_int (fun _ _ => rfl)) pe_int (nomark _)) (pss_cons (ps_set (i := 3) sc__law_draw.nd rfl (by first | exact Or.inl rfl | exact Or.inr rfl) (pe_op o_modI (pe_callTy c_int (by rfl) T.n_int boot_int (pa_cons (pe_ix ix_list (pv 0) pe_int (fun _ _ => rfl)) pa_nil)) (pv 1)))
    (pss_cons (ps_asg (pe_op o_divI (pe_ix ix_list (pv 0) pe_int (fun _ _ => rfl)) (pv 1)) (pg_sub (pv 0) pe_int set_list))
    (pss_one (ps_ret (pv 3))))) pss_nil)
    (pss_cons (ps_asg (pe_op o_addI (pe_ix ix_list (pv 0) pe_int (fun _ _ => rfl)) pe_int) (pg_sub (pv 0) pe_int set_list))
    (pss_cons (ps_set (i := 2) sc__law_draw.nd rfl (by first | exact Or.inl rfl | exact Or.inr rfl) (pe_op o_modI (pe_callTy c_int (by rfl) T.n_int boot_int (pa_cons (pe_op o_mulI (pe_op o_addI (pe_op o_addI (pe_ix ix_list (pv 0) pe_int (fun _ _ => rfl)) (pe_op o_mulI pe_int (pe_ix ix_list (pv 0) pe_int (fun _ _ => rfl)))) pe_int) pe_int) pa_nil)) pe_int))
    (pss_cons (ps_set (i := 2) sc__law_draw.nd rfl (by first | exact Or.inl rfl | exact Or.inr rfl) (pe_op o_modI (pe_callTy c_int (by rfl) T.n_int boot_int (pa_cons (pe_op o_mulI (pv 2) (pe_op o_addI (pe_op o_divI (pv 2) pe_int) pe_int)) pa_nil)) pe_int))
    (pss_one (ps_ret (pe_op o_modI (pe_callTy c_int (by rfl) T.n_int boot_int (pa_cons (pe_op o_divI (pe_op o_modI (pe_callTy c_int (by rfl) T.n_int boot_int (pa_cons (pe_op o_mulI (pv 2) (pe_op o_addI (pe_op o_divI (pv 2) pe_int) pe_int)) pa_nil)) pe_int) pe_int) pa_nil)) (pv 1))))))))

def sp__law_pick (G : Gx) : Sp := fun vs H Q _ => vs.length = 2 ∧ ∃ (s b : Addr) (xs : List V), vs = [.ref s, .ref b] ∧ SrcAt H s ∧ H b = some (.lst xs) ∧ b ≠ s ∧ xs ≠ [] ∧ xs.length ≤ 1000 ∧ ∀ v H', v ∈ xs → SrcAt H' s → But s H H' → Q v H'
def t__law_pick (G : Gx) (W : WX) : TS :=
  tRet (tOp (rIxL G.K) (tVar 1) (tCall (sp__law_draw G) [] E0 (tCons (tVar 0) (tCons (tCB (LX.rLen G.K) (tCons (tVar 1) tNil)) tNil))))
theorem pure__law_pick (T : Txt G) (vs : List V) (H : Hp) (Q : VK) (E : XK) (h : sp__law_pick G vs H Q E) : t__law_pick G (fun cls d _ H => E cls d H) { nx := fun _ H' => Q .non H', rt := Q } (start ["_law_source_here", "_law_some"] vs) H := by
  obtain ⟨_, s, b, xs, rfl, hs, hb, ne, n0, hl, k⟩ := h
  unfold t__law_pick
  walk_at "u"
  refine w_lenL (SqL.of hb) ?_
  walk_at "u"
  have hp : 0 < xs.length := List.length_pos_iff.mpr n0
  refine ⟨rfl, s, _, rfl, hs, by omega, by omega, fun r H1 r0 r1 s1 b1 => ?_⟩
  obtain ⟨j, rfl⟩ := Int.eq_ofNat_of_zero_le r0
  have hj : j < xs.length := by omega
  refine w_ixL (SqL.of (b1 _ _ hb ne)) (atI_nat (List.getElem?_eq_getElem hj)) ?_
  walk_at "u"
  exact k _ _ (List.getElem_mem hj) s1 b1
theorem ok__law_pick (T : Txt G) : FnOk P w G.K G.mg base (L2.CX P w) 2 G.f__law_pick G.d__law_pick ["_law_source_here", "_law_some"] (sp__law_pick G) := by
  refine T.F__law_pick.okX sc__law_pick (fun _ _ _ _ h => h.1) (fun cdv A outer s H vs Q E hr h => ⟨t__law_pick G (fun cls d _ H => E cls d H), ?_, pure__law_pick T vs H Q E h⟩)
  have tk : Takes (cxOf (L2.CX P w) P w G.K G.mg base ["_law_source_here", "_law_some"] "_law_pick" (defScope s__law_pick) G.f__law_pick cdv A outer s H E) (fun cls d _ H => E cls d H) := takes_of rfl rfl rfl rfl
  exact (pss_one (ps_ret (pe_ix ix_list (pv 1) (pe_call (ok__law_draw T) (hr.mono (by decide)) rfl T.g__law_draw T.F__law_draw.kp T.b__law_draw .nil passL (pa_cons (pv 0) (pa_cons (pe_callB c_len (by rfl) T.n_len PySem.boot_len (pa_cons (pv 1) pa_nil)) pa_nil))) (fun _ _ => rfl))))

theorem r_pick {H : Hp} {Q : VK} {E : XK} {s b : Addr} {xs : List V} (hs : SrcAt H s) (hb : H b = some (.lst xs)) (ne : b ≠ s) (n0 : xs ≠ []) (hl : xs.length ≤ 1000)
    (k : ∀ v H', v ∈ xs → SrcAt H' s → But s H H' → Q v H') : sp__law_pick G [.ref s, .ref b] H Q E := ⟨rfl, s, b, xs, rfl, hs, hb, ne, n0, hl, k⟩

/-! NoWord -/
def sp_NoWord_init (G : Gx) : Sp := spInit1 G.K G.c_NoWord "word"
def t_NoWord_init (G : Gx) (W : WX) : TS :=
  tOst G.K "word" (tVar 0) (tVar 1)
theorem ok_NoWord_init (T : Txt G) : FnOk P w G.K G.mg base (L2.CX P w) 1 G.f_NoWord_init G.d_NoWord_init ["self", "word"] (sp_NoWord_init G) := by
  refine T.F_NoWord_init.okX sc_NoWord_init (fun vs H Q E h => by obtain ⟨a, y, rfl, _⟩ := h; rfl) (fun cdv A outer s H vs Q E hr h => ⟨t_NoWord_init G (fun cls d _ H => E cls d H), ?_, ?_⟩)
  · exact (pss_one (ps_ost (pv 0) (pv 1)))
  · obtain ⟨a, y, rfl, oe, no, ha, k⟩ := h
    exact ⟨y, rfl, .ref a, rfl, a, G.c_NoWord, rfl, oe, no, .inl ⟨ha, fun dx hd ne => k dx hd ne⟩⟩
theorem Txt.e_NoWord {X : Cx} (T : Txt G) (F : FnOk X.prog X.w X.K X.mg X.base (L2.CX X.prog X.w) 1 G.f_NoWord_init G.d_NoWord_init ["self", "word"] (spInit1 X.K G.c_NoWord "word")) (hK : X.K = G.K := by rfl) (hm : X.mg = G.mg := by rfl) :
    Exc1 X "NoWord" G.c_NoWord "word" G.f_NoWord_init G.d_NoWord_init ["self", "word"] :=
  ⟨hK ▸ T.oe_NoWord, hK ▸ T.no_NoWord_word, hK ▸ T.in_NoWord.1, hK ▸ T.in_NoWord.2, F, hK ▸ T.b_NoWord_init, hm ▸ T.gc_NoWord⟩
def sp_NoWord_told (G : Gx) : Sp := fun vs H Q _ => vs.length = 1 ∧ Q (.str "refused noword") H
def t_NoWord_told (G : Gx) (W : WX) : TS :=
  tRet (tC (.str "refused noword"))
theorem pure_NoWord_told (T : Txt G) (vs : List V) (H : Hp) (Q : VK) (E : XK) (h : sp_NoWord_told G vs H Q E) : t_NoWord_told G (fun cls d _ H => E cls d H) { nx := fun _ H' => Q .non H', rt := Q } (start ["self"] vs) H := by
  obtain ⟨_, h⟩ := h
  unfold t_NoWord_told
  walk_at "u"
  exact h
theorem ok_NoWord_told (T : Txt G) : FnN P w G.K G.mg base 1 G.f_NoWord_told G.d_NoWord_told ["self"] (sp_NoWord_told G) := by
  refine fnN T.F_NoWord_told sc_NoWord_told (fun _ _ _ _ h => h.1) (fun cdv A outer s H vs Q E h => ⟨t_NoWord_told G (fun cls d _ H => E cls d H), ?_, pure_NoWord_told T vs H Q E h⟩)
  exact (pss_one (ps_ret pe_str))

/-! numbers, sequences -/
theorem int_int : kitB "int" "int" = some true := by decide +kernel
theorem int_bool : kitB "int" "bool" = some false := by decide +kernel
def sp_is_number (G : Gx) : Sp := fun vs H Q _ => vs.length = 1 ∧ ∃ i : Int, vs = [.int i] ∧ Q (.bl true) H
def t_is_number (G : Gx) (W : WX) : TS :=
  tRet (tAndV (tCB (rIsi G.K) (tCons (tVar 0) (tCons (tC (.ty "int")) tNil))) (tNotV (tCB (rIsi G.K) (tCons (tVar 0) (tCons (tC (.ty "bool")) tNil)))))
theorem pure_is_number (T : Txt G) (vs : List V) (H : Hp) (Q : VK) (E : XK) (h : sp_is_number G vs H Q E) : t_is_number G (fun cls d _ H => E cls d H) { nx := fun _ H' => Q .non H', rt := Q } (start ["thing"] vs) H := by
  obtain ⟨_, i, rfl, h⟩ := h
  unfold t_is_number
  walk_at "u"
  refine ⟨_, _, _, _, _, rfl, .ty _, .base (.int _), kit_ty int_int, ?_⟩
  refine ⟨_, rfl, iteT ?_⟩
  walk_at "u"
  refine ⟨_, _, _, _, _, rfl, .ty _, .base (.int _), kit_ty int_bool, ?_⟩
  exact ⟨_, rfl, h⟩
theorem ok_is_number (T : Txt G) : FnOk P w G.K G.mg base (L2.CX P w) 1 G.f_is_number G.d_is_number ["thing"] (sp_is_number G) := by
  refine T.F_is_number.okX sc_is_number (fun _ _ _ _ h => h.1) (fun cdv A outer s H vs Q E hr h => ⟨t_is_number G (fun cls d _ H => E cls d H), ?_, pure_is_number T vs H Q E h⟩)
  have tk : Takes (cxOf (L2.CX P w) P w G.K G.mg base ["thing"] "is_number" (defScope s_is_number) G.f_is_number cdv A outer s H E) (fun cls d _ H => E cls d H) := takes_of rfl rfl rfl rfl
  exact (pss_one (ps_ret (pe_and (pe_callB call_isi (by rfl) T.n_isinstance boot_isinstance (pa_cons (pv 0) (pa_cons (pe_b T.n_int boot_int) pa_nil))) (pe_one (pe_not (pe_callB call_isi (by rfl) T.n_isinstance boot_isinstance (pa_cons (pv 0) (pa_cons (pe_b T.n_bool boot_bool) pa_nil))))))))
theorem kit_any {K : PySem.W.Frag} {a : String} (h : a = "list" ∨ a = "tuple") : PySem.W.kitAny K (.type a) [.type "list", .type "tuple"] = some true := by
  rcases h with rfl | rfl <;> rfl
def sp_is_sequence (G : Gx) : Sp := fun vs H Q _ => vs.length = 1 ∧ ∃ (p : Addr) (xs : List V), vs = [.ref p] ∧ (H p = some (.lst xs) ∨ H p = some (.tup xs)) ∧ ∀ H', Same H H' → Q (.bl true) H'
def t_is_sequence (G : Gx) (W : WX) : TS :=
  tRet (tCB (rIsiT G.K) (tCons (tVar 0) (tCons (tTup (tCons (tC (.ty "list")) (tCons (tC (.ty "tuple")) tNil))) tNil)))
theorem pure_is_sequence (T : Txt G) (vs : List V) (H : Hp) (Q : VK) (E : XK) (h : sp_is_sequence G vs H Q E) : t_is_sequence G (fun cls d _ H => E cls d H) { nx := fun _ H' => Q .non H', rt := Q } (start ["thing"] vs) H := by
  obtain ⟨_, p, xs, rfl, hp, k⟩ := h
  unfold t_is_sequence
  walk_at "u"
  refine ⟨by show 2 ≤ sizeLine; decide, fun q hq => ?_⟩
  walk_at "u"
  rcases hp with hp | hp
  · exact ⟨_, q, _, .type "list", [.type "list", .type "tuple"], true, rfl, upd_same, .cons (.ty _) (.cons (.ty _) .nil), .base (.lst (up_new hq hp)), kit_any (.inl rfl), k _ (same_new (Same.refl H) hq)⟩
  · exact ⟨_, q, _, .type "tuple", [.type "list", .type "tuple"], true, rfl, upd_same, .cons (.ty _) (.cons (.ty _) .nil), .base (.tup (up_new hq hp)), kit_any (.inr rfl), k _ (same_new (Same.refl H) hq)⟩
theorem ok_is_sequence (T : Txt G) : FnOk P w G.K G.mg base (L2.CX P w) 1 G.f_is_sequence G.d_is_sequence ["thing"] (sp_is_sequence G) := by
  refine T.F_is_sequence.okX sc_is_sequence (fun _ _ _ _ h => h.1) (fun cdv A outer s H vs Q E hr h => ⟨t_is_sequence G (fun cls d _ H => E cls d H), ?_, pure_is_sequence T vs H Q E h⟩)
  have tk : Takes (cxOf (L2.CX P w) P w G.K G.mg base ["thing"] "is_sequence" (defScope s_is_sequence) G.f_is_sequence cdv A outer s H E) (fun cls d _ H => E cls d H) := takes_of rfl rfl rfl rfl
  exact (pss_one (ps_ret (pe_callB call_isiT (by rfl) T.n_isinstance boot_isinstance (pa_cons (pv 0) (pa_cons (pe_tup (pa_cons (pe_b T.n_list boot_list) (pa_cons (pe_b T.n_tuple boot_tuple) pa_nil))) pa_nil)))))
def sp_is_below (G : Gx) : Sp := fun vs H Q _ => vs.length = 2 ∧ ∃ (i n : Nat), vs = [.int i, .int n] ∧ i < n ∧ Q (.bl true) H
def t_is_below (G : Gx) (W : WX) : TS :=
  tRet (tAndV (tCall (sp_is_number G) [] E0 (tCons (tVar 0) tNil)) (tChain rLeI rLtI (tC (.int 0)) (tVar 0) (tVar 1)))
theorem pure_is_below (T : Txt G) (vs : List V) (H : Hp) (Q : VK) (E : XK) (h : sp_is_below G vs H Q E) : t_is_below G (fun cls d _ H => E cls d H) { nx := fun _ H' => Q .non H', rt := Q } (start ["thing", "many"] vs) H := by
  obtain ⟨_, i, n, rfl, hi, h⟩ := h
  unfold t_is_below
  walk_at "u"
  refine ⟨rfl, _, rfl, ?_⟩
  refine ⟨_, rfl, iteT ?_⟩
  walk_at "u"
  refine w_ite (fun _ => ?_) fun z => absurd (by omega) z
  walk_at "u"
  have e : decide ((i : Int) < (n : Int)) = true := decide_eq_true (by omega)
  rw [e]
  exact h
theorem ok_is_below (T : Txt G) : FnOk P w G.K G.mg base (L2.CX P w) 2 G.f_is_below G.d_is_below ["thing", "many"] (sp_is_below G) := by
  refine T.F_is_below.okX sc_is_below (fun _ _ _ _ h => h.1) (fun cdv A outer s H vs Q E hr h => ⟨t_is_below G (fun cls d _ H => E cls d H), ?_, pure_is_below T vs H Q E h⟩)
  have tk : Takes (cxOf (L2.CX P w) P w G.K G.mg base ["thing", "many"] "is_below" (defScope s_is_below) G.f_is_below cdv A outer s H E) (fun cls d _ H => E cls d H) := takes_of rfl rfl rfl rfl
  exact (pss_one (ps_ret (pe_and (pe_call (ok_is_number T) (hr.mono (by decide)) rfl T.g_is_number T.F_is_number.kp T.b_is_number .nil passL (pa_cons (pv 0) pa_nil)) (pe_one (pe_chain o_leI o_ltI pe_int (pv 0) (pv 1))))))

end
end K67

set_option Elab.async false
set_option linter.all false
set_option maxRecDepth 100000
set_option maxHeartbeats 4000000
namespace K67
open PySem PySem.Spec PyProof.Rows L2 LX M67
local macro_rules | `(tactic| walk_at "hp") => `(tactic| first | assumption | exact upd_same | (refine up_new (by assumption) ?_; walk_at "hp") | (refine up_ne (by first | assumption | (exact Ne.symm (by assumption))) ?_; walk_at "hp") | (refine up_mut (by assumption) (by intro z; cases z) ?_; walk_at "hp"))
local macro_rules | `(tactic| walk_at "w1") => `(tactic| first
  | (with_reducible refine w_seq ?_) | (with_reducible refine w_asg ?_) | (with_reducible refine w_name ?_) | (with_reducible refine w_ret ?_) | (with_reducible refine w_drop ?_) | (with_reducible refine w_ifS ?_)
  | (with_reducible refine w_var (by with_unfolding_all exact rfl) ?_) | (with_reducible refine w_c ?_) | (with_reducible refine w_op ?_) | (with_reducible refine w_test ?_) | (with_reducible refine w_B ?_)
  | (with_reducible refine w_bl ?_) | (with_reducible refine w_cons ?_) | (with_reducible refine w_nil ?_) | (with_reducible refine w_cb ?_) | (with_reducible refine w_call ?_) | (with_reducible refine w_callS ?_)
  | (with_reducible refine w_addI ?_) | (with_reducible refine w_subI ?_) | (with_reducible refine w_ltI ?_) | (with_reducible refine w_leI ?_) | (with_reducible refine w_gtI ?_) | (with_reducible refine w_geI ?_)
  | (with_reducible refine w_tAnd ?_) | (with_reducible refine w_tOr ?_) | (with_reducible refine w_tNot ?_) | (with_reducible refine w_andV ?_) | (with_reducible refine w_orV ?_) | (with_reducible refine w_notV ?_) | (with_reducible refine w_if ?_)
  | (with_reducible refine w_un ?_) | (with_reducible refine w_neg ?_) | (with_reducible refine w_intI ?_) | (with_reducible refine w_intB ?_) | (with_reducible refine w_abs ?_)
  | (with_reducible refine w_eq (by with_unfolding_all exact rfl) ?_) | (with_reducible refine w_ne (by with_unfolding_all exact rfl) ?_) | (with_reducible refine w_isNone ?_) | (with_reducible refine w_notNone ?_)
  | (with_reducible refine w_tup ?_) | (with_reducible refine w_lst ?_) | (with_reducible refine w_sl ?_) | (with_reducible refine w_noPart ?_) | (with_reducible refine w_part ?_) | (with_reducible refine w_partI ?_)
  | (with_reducible refine w_fld0 ?_) | (with_reducible refine w_rz ?_)
  | (with_reducible refine w_next ?_) | (with_reducible refine w_brk ?_) | (with_reducible refine w_cont ?_) | (with_reducible refine w_retN ?_))
local macro_rules | `(tactic| walk_at "w") => `(tactic| repeat walk_at "w1")
local macro_rules | `(tactic| walk_at "u1") => `(tactic| first | walk_at "w1" | (with_reducible refine w_gsub ?_) | (with_reducible refine w_par ?_) | (with_reducible refine w_par3 ?_) | (with_reducible refine w_pr2 ?_) | (with_reducible refine w_pr3 ?_) | (with_reducible refine w_then ?_) | (with_reducible refine w_for ?_) | (with_reducible refine w_rng1 ?_) | (with_reducible refine w_enumS ?_) | (with_reducible refine w_iList ?_) | (with_reducible refine w_iTup ?_) | (with_reducible refine w_iStr ?_) | (with_reducible refine w_make ?_) | (with_reducible refine w_lc ?_) | (with_reducible refine w_iEnum ?_) | (with_reducible refine w_iEnumT ?_) | (with_reducible refine w_chain ?_) | (with_reducible refine w_bm ?_))
local macro_rules | `(tactic| walk_at "u") => `(tactic| repeat walk_at "u1")
section
variable {P : Program} {w : World} {base : Heap} {G : Gx}
/-! the form of a table -/
def Form (R : List (List Nat)) (k : Nat) : Prop := 1 ≤ R.length ∧ R.length ≤ 2000 ∧ 1 ≤ k ∧ k ≤ 6 ∧ ∀ i, i < R.length → (R.getD i []).length = k ∧ ∀ x ∈ R.getD i [], x < R.length
def sp_check_form (G : Gx) : Sp := fun vs H Q _ => vs.length = 1 ∧ ∃ (p : Addr) (R : List (List Nat)) (k : Nat), vs = [.ref p] ∧ Mat .lst .lst H p R ∧ Form R k ∧ ∀ H', Same H H' → Q .non H'
def t_check_form (G : Gx) (W : WX) : TS :=
  tSeq (tIfS (tOr (tNot (tB (tCall (sp_is_sequence G) [] E0 (tCons (tVar 0) tNil)))) (tNot (tTest (tChain rLeI rLeI (tC (.int 1)) (tCB (LX.rLen G.K) (tCons (tVar 0) tNil)) (tC (.int 2000)))))) tNever tNext)
  (tFor (iEnum G.K (tCons (tVar 0) tNil)) (gTup G.K 2 (gCons (gName 1) (gCons (gName 2) gNil))) (tSeq (tIfS (tOr (tNot (tB (tCall (sp_is_sequence G) [] E0 (tCons (tVar 2) tNil)))) (tOr (tNot (tTest (tChain rLeI rLeI (tC (.int 1)) (tCB (LX.rLen G.K) (tCons (tVar 2) tNil)) (tC (.int 6))))) (tTest (tOp rNe (tCB (LX.rLen G.K) (tCons (tVar 2) tNil)) (tCB (LX.rLen G.K) (tCons (tOp (rIxL G.K) (tVar 0) (tC (.int 0))) tNil)))))) tNever tNext)
  (tIfS (tNot (tB (tCB (rAll G.K) (tCons (tLc (iList G.K (tVar 2)) (gName 3) tYes (tAndV (tCall (sp_is_number G) [] E0 (tCons (tVar 3) tNil)) (tChain rLeI rLtI (tC (.int 0)) (tVar 3) (tCB (LX.rLen G.K) (tCons (tVar 0) tNil)))) [3]) tNil)))) tNever tNext)))
theorem getD_mem {ns : List Nat} {i : Nat} (h : i < ns.length) : ns.getD i 0 ∈ ns := by
  rw [List.getD_eq_getElem?_getD, List.getElem?_eq_getElem h]
  exact List.getElem_mem h
theorem pure_check_form (T : Txt G) (vs : List V) (H : Hp) (Q : VK) (E : XK) (h : sp_check_form G vs H Q E) : t_check_form G (fun cls d _ H => E cls d H) { nx := fun _ H' => Q .non H', rt := Q } (start ["right", "place", "row", "number"] vs) H := by
  obtain ⟨_, p, R, k, rfl, m, ⟨h1, h2, k1, k2, hr⟩, kk⟩ := h
  obtain ⟨ps, hp, hl, hrow⟩ := m
  have hlen : ((ps.map V.ref).length : Int) = (R.length : Nat) := by rw [refs_len, hl]
  unfold t_check_form
  walk_at "u"
  refine ⟨rfl, p, _, rfl, .inl hp, fun H1 s1 => ⟨_, rfl, ?_⟩⟩
  refine iteF ?_
  walk_at "u"
  refine w_lenL (SqL.of (s1 _ _ hp)) ?_
  rw [hlen]
  walk_at "u"
  refine w_ite (fun _ => ?_) fun z => absurd (by omega) z
  walk_at "u"
  have e1 : decide (((R.length : Nat) : Int) ≤ 2000) = true := decide_eq_true (by omega)
  rw [e1]
  refine iteF ?_
  walk_at "u"
  refine ⟨p, _, rfl, SqL.of (s1 _ _ hp), ?_⟩
  refine for_enR (enR_list G.K p (ps.map V.ref)) (fun _ σ H' => (∃ a b c : Option V, σ = [some (.ref p), a, b, c]) ∧ Same H H') (fun _ _ _ z => SqL.of (z.2 _ _ hp)) ⟨⟨_, _, _, rfl⟩, s1⟩ (fun i σ Ha Tn hi z nT => ?_) (fun σ Ha z => kk _ z.2)
  obtain ⟨⟨a, b, c, rfl⟩, sa⟩ := z
  rw [refs_len] at hi
  have hiR : i < R.length := by omega
  obtain ⟨lr, lx⟩ := hr i hiR
  have ha : Ha (ps.getD i 0) = some (.lst (IL (R.getD i []))) := sa _ _ (hrow i hiR)
  have sT : Same H (upd Ha Tn (.tup [.int (i : Nat), (ps.map V.ref).getD i .non])) := same_new sa nT
  have haT : upd Ha Tn (.tup [.int (i : Nat), (ps.map V.ref).getD i .non]) (ps.getD i 0) = some (.lst (IL (R.getD i []))) := up_new nT ha
  refine w_gT2 upd_same ?_
  rw [refs_getD hi]
  rw [refs_getD hi] at sT haT
  generalize upd Ha Tn (.tup [.int (i : Nat), .ref (ps.getD i 0)]) = Hb at sT haT
  walk_at "u"
  refine ⟨rfl, _, _, rfl, .inl haT, fun Hc sc => ⟨_, rfl, ?_⟩⟩
  have hac := sc _ _ haT
  refine iteF ?_
  walk_at "u"
  refine w_lenL (SqL.of hac) ?_
  rw [IL_len, lr]
  walk_at "u"
  refine w_ite (fun _ => ?_) fun z => absurd (by omega) z
  walk_at "u"
  have e2 : decide (((k : Nat) : Int) ≤ 6) = true := decide_eq_true (by omega)
  rw [e2]
  refine iteF ?_
  walk_at "u"
  refine w_lenL (SqL.of hac) ?_
  walk_at "u"
  have hpc := sc _ _ (sT _ _ hp)
  have h0c := sc _ _ (sT _ _ (hrow 0 (by omega)))
  refine w_ixL (SqL.of hpc) (by exact refs_at (i := 0) (by omega)) ?_
  walk_at "u"
  refine w_lenL (SqL.of h0c) ?_
  walk_at "u"
  rw [IL_len, IL_len, lr, (hr 0 (by omega)).1]
  refine w_iteN (fun z => absurd rfl z) fun _ => ?_
  walk_at "u"
  refine ⟨_, rfl, ⟨_, SqL.of hac⟩, fun Dl hD => ?_⟩
  refine lc_mapR (i := 3) (fixR_list G.K (ps.getD i 0) (IL (R.getD i []))) (fun _ => .bl true) (by rw [IL_len, lr]; omega) hD (fun Hx sx => SqL.of (sx _ _ hac)) (fun x => rfl) (fun j Hx Qx hj sx qx => ?_) fun Hx sx ex => ?_
  · rw [IL_len] at hj
    rw [IL_getD hj]
    walk_at "u"
    refine ⟨rfl, _, rfl, ?_⟩
    refine ⟨_, rfl, iteT ?_⟩
    walk_at "u"
    refine w_ite (fun _ => ?_) fun z => absurd (by omega) z
    walk_at "u"
    refine w_lenL (SqL.of (sx _ _ hpc)) ?_
    rw [hlen]
    have := lx _ (getD_mem hj)
    have e3 : decide ((((R.getD i []).getD j 0 : Nat) : Int) < (R.length : Nat)) = true := decide_eq_true (by omega)
    walk_at "u"
    rw [e3]
    exact qx _ (Same.refl _)
  · walk_at "u"
    rw [(all_true _).1] at ex
    refine w_all (SqL.of ex) ?_
    rw [(all_true _).2]
    walk_at "u"
    refine iteF ?_
    walk_at "u"
    exact ⟨⟨_, _, _, rfl⟩, (sT.trans sc).trans sx⟩
theorem ok_check_form (T : Txt G) : FnOk P w G.K G.mg base (L2.CX P w) 2 G.f_check_form G.d_check_form ["right"] (sp_check_form G) := by
  refine T.F_check_form.okX sc_check_form (fun _ _ _ _ h => h.1) (fun cdv A outer s H vs Q E hr h => ⟨t_check_form G (fun cls d _ H => E cls d H), ?_, pure_check_form T vs H Q E h⟩)
  have tk : Takes (cxOf (L2.CX P w) P w G.K G.mg base ["right", "place", "row", "number"] "check_form" (defScope s_check_form) G.f_check_form cdv A outer s H E) (fun cls d _ H => E cls d H) := takes_of rfl rfl rfl rfl
  exact (pss_cons (ps_if (PW.pt (pw_or (pt_not (pt_val (pe_call (ok_is_sequence T) (hr.mono (by decide)) rfl T.g_is_sequence T.F_is_sequence.kp T.b_is_sequence .nil passL (pa_cons (pv 0) pa_nil)))) (pw_or1 (pt_not (pt_chain o_leI o_leI pe_int (pe_callB c_len (by rfl) T.n_len PySem.boot_len (pa_cons (pv 0) pa_nil)) (pe_g T.k_MOST_ELEMENTS)))))) (pss_one ps_never) pss_nil)
    (pss_one (ps_for (passes_of rfl) rfl (pi_enum rfl T.n_enumerate (pa_cons (pv 0) pa_nil)) (pg_tup rfl (pgs_cons (pg_name (i := 1) sc_check_form.nd rfl (by first | exact Or.inl rfl | exact Or.inr rfl)) (pgs_cons (pg_name (i := 2) sc_check_form.nd rfl (by first | exact Or.inl rfl | exact Or.inr rfl)) pgs_nil))) (pss_cons (ps_if (PW.pt (pw_or (pt_not (pt_val (pe_call (ok_is_sequence T) (hr.mono (by decide)) rfl T.g_is_sequence T.F_is_sequence.kp T.b_is_sequence .nil passL (pa_cons (pv 2) pa_nil)))) (pw_or (pt_not (pt_chain o_leI o_leI pe_int (pe_callB c_len (by rfl) T.n_len PySem.boot_len (pa_cons (pv 2) pa_nil)) (pe_g T.k_MOST_LETTERS))) (pw_or1 (pt_cmpR op_ne (pe_callB c_len (by rfl) T.n_len PySem.boot_len (pa_cons (pv 2) pa_nil)) (pe_callB c_len (by rfl) T.n_len PySem.boot_len (pa_cons (pe_ix ix_list (pv 0) pe_int (fun _ _ => rfl)) pa_nil)) (nomark _)))))) (pss_one ps_never) pss_nil)
    (pss_one (ps_if (pt_not (pt_val (pe_callB (cr_all rfl) (by rfl) T.n_all (by decide +kernel) (pa_cons (pe_lc (own := [("number", 3)]) (g := (gName 3)) (tt := tYes) rfl sc_check_form.nd (pi_list (pv 2)) (blkOk_by (N := ["right", "place", "row", "number"]) (sc := defScope s_check_form) (by decide +kernel)) (fun _ _ _ _ _ => pg_name (i := 3) sc_check_form.nd rfl (by first | exact Or.inl rfl | exact Or.inr rfl)) (fun _ _ _ _ _ => pts_nil) (fun _ _ _ _ _ => pe_and (pe_call (ok_is_number T) (hr.mono (by decide)) rfl T.g_is_number T.F_is_number.kp T.b_is_number .nil passL (pa_cons (pv 3) pa_nil)) (pe_one (pe_chain o_leI o_ltI pe_int (pv 3) (pe_callB c_len (by rfl) T.n_len PySem.boot_len (pa_cons (pv 0) pa_nil)))))) pa_nil)))) (pss_one ps_never) pss_nil))))))

def sp_check_order (G : Gx) : Sp := fun vs H Q _ => vs.length = 1 ∧ ∃ (p : Addr) (R : List (List Nat)), vs = [.ref p] ∧ Mat .tup .tup H p R ∧ order 0 1 R = true ∧ ∀ H', Same H H' → Q .non H'
def t_check_order (G : Gx) (W : WX) : TS :=
  tSeq (tAsg (tC (.int 1)) (gName 1))
  (tFor (iEnumT G.K (tCons (tVar 0) tNil)) (gTup G.K 2 (gCons (gName 2) (gCons (gName 3) gNil))) (tSeq (tIfS (tTest (tOp rGeI (tVar 2) (tVar 1))) tNever tNext)
  (tFor (iTup G.K (tVar 3)) (gName 4) (tSeq (tIfS (tTest (tOp rGtI (tVar 4) (tVar 1))) tNever tNext)
  (tAsg (tOp rAddI (tVar 1) (tCB rInt (tCons (tOp rEq (tVar 4) (tVar 1)) tNil))) (gName 1))))))
theorem take_succ_of {α : Type} {l : List α} {i : Nat} {d : α} (h : i < l.length) : l.take (i + 1) = l.take i ++ [l.getD i d] := by
  rw [List.getD_eq_getElem?_getD, List.take_add_one, List.getElem?_eq_getElem h]
  rfl
theorem pure_check_order (T : Txt G) (vs : List V) (H : Hp) (Q : VK) (E : XK) (h : sp_check_order G vs H Q E) : t_check_order G (fun cls d _ H => E cls d H) { nx := fun _ H' => Q .non H', rt := Q } (start ["right", "met", "number", "row", "other"] vs) H := by
  obtain ⟨_, p, R, rfl, m, ho, kk⟩ := h
  obtain ⟨ps, hp, hl, hrow⟩ := m
  unfold t_check_order
  walk_at "u"
  refine ⟨p, _, rfl, SqT.of hp, ?_⟩
  refine for_enR (enR_tup G.K p (ps.map V.ref)) (fun i σ H' => (∃ a b c : Option V, σ = [some (.ref p), some (.int (metAll 1 (R.take i) : Nat)), a, b, c]) ∧ Same H H') (fun _ _ _ z => SqT.of (z.2 _ _ hp)) ⟨⟨_, _, _, rfl⟩, Same.refl H⟩ (fun i σ Ha Tn hi z nT => ?_) (fun σ Ha z => kk _ z.2)
  obtain ⟨⟨a, b, c, rfl⟩, sa⟩ := z
  rw [refs_len] at hi
  have hiR : i < R.length := by omega
  refine w_gT2 upd_same ?_
  rw [refs_getD hi]
  have sT : Same H (upd Ha Tn (.tup [.int (i : Nat), .ref (ps.getD i 0)])) := same_new sa nT
  generalize upd Ha Tn (.tup [.int (i : Nat), .ref (ps.getD i 0)]) = Hb at sT
  have hrb := sT _ _ (hrow i hiR)
  have hsplit : R = R.take i ++ (R.getD i [] :: R.drop (i + 1)) := by
    have e : R.drop i = R.getD i [] :: R.drop (i + 1) := by rw [List.drop_eq_getElem_cons hiR, List.getD_eq_getElem?_getD, List.getElem?_eq_getElem hiR]; rfl
    rw [← e, List.take_append_drop]
  have ho2 := ho
  rw [hsplit, order_app, Bool.and_eq_true] at ho2
  have ho3 := ho2.2
  simp only [order, Bool.and_eq_true, decide_eq_true_eq] at ho3
  obtain ⟨hn, hok, _⟩ := ho3
  have lt : (R.take i).length = i := by rw [List.length_take]; omega
  rw [lt] at hn
  walk_at "u"
  refine w_ite (fun z => absurd z (by omega)) fun _ => ?_
  walk_at "u"
  refine ⟨_, rfl, ⟨_, SqT.of hrb⟩, ?_⟩
  generalize hm : metAll 1 (R.take i) = M at hn hok
  have hnext : metAll 1 (R.take (i + 1)) = metRow M (R.getD i []) := by
    rw [take_succ_of (d := []) hiR, ← hm]
    unfold metAll
    rw [List.foldl_append]
    rfl
  generalize R.getD i [] = row at hrb hok hnext
  refine for_fixR (fixR_tup G.K (ps.getD i 0) (IL row)) (fun j σ H' => (∃ a b c : Option V, σ = [some (.ref p), some (.int (metRow M (row.take j) : Nat)), a, b, c]) ∧ Same H H' ∧ H' (ps.getD i 0) = some (.tup (IL row))) (fun _ _ _ z => SqT.of z.2.2) ⟨⟨_, _, _, rfl⟩, sT, hrb⟩ (fun j σ Hc hj z => ?_) (fun σ Hc z => ?_)
  · obtain ⟨⟨a, b, c, rfl⟩, sc, hc⟩ := z
    rw [IL_len] at hj
    rw [IL_getD hj]
    have hs2 : row = row.take j ++ (row.getD j 0 :: row.drop (j + 1)) := by
      have e : row.drop j = row.getD j 0 :: row.drop (j + 1) := by rw [List.drop_eq_getElem_cons hj, List.getD_eq_getElem?_getD, List.getElem?_eq_getElem hj]; rfl
      rw [← e, List.take_append_drop]
    rw [hs2, rowOk_app, Bool.and_eq_true] at hok
    have hok2 := hok.2
    simp only [rowOk, Bool.and_eq_true, decide_eq_true_eq] at hok2
    have hle := hok2.1
    have hmt : metRow M (row.take (j + 1)) = if row.getD j 0 = metRow M (row.take j) then metRow M (row.take j) + 1 else metRow M (row.take j) := by
      rw [take_succ_of (d := 0) hj, metRow_app]
      rfl
    generalize metRow M (row.take j) = m1 at hle hmt
    walk_at "u"
    refine w_ite (fun z => absurd z (by omega)) fun _ => ?_
    walk_at "u"
    have ed : decide (V.int ((row.getD j 0 : Nat) : Int) = V.int (m1 : Nat)) = decide (row.getD j 0 = m1) := by
      refine decide_eq_decide.mpr ⟨fun z => ?_, fun z => by rw [z]⟩
      have := V.int.inj z
      omega
    rw [ed]
    refine ⟨⟨a, b, some (.int (row.getD j 0 : Nat)), ?_⟩, sc, hc⟩
    rw [hmt]
    by_cases e : row.getD j 0 = m1
    · rw [decide_eq_true e, if_pos rfl, if_pos e]
      rfl
    · rw [decide_eq_false e, if_neg e]
      rfl
  · obtain ⟨⟨a, b, c, rfl⟩, sc, hc⟩ := z
    refine ⟨⟨a, b, c, ?_⟩, sc⟩
    rw [hnext, IL_len, List.take_length]
theorem ok_check_order (T : Txt G) : FnOk P w G.K G.mg base (L2.CX P w) 1 G.f_check_order G.d_check_order ["right"] (sp_check_order G) := by
  refine T.F_check_order.okX sc_check_order (fun _ _ _ _ h => h.1) (fun cdv A outer s H vs Q E hr h => ⟨t_check_order G (fun cls d _ H => E cls d H), ?_, pure_check_order T vs H Q E h⟩)
  have tk : Takes (cxOf (L2.CX P w) P w G.K G.mg base ["right", "met", "number", "row", "other"] "check_order" (defScope s_check_order) G.f_check_order cdv A outer s H E) (fun cls d _ H => E cls d H) := takes_of rfl rfl rfl rfl
  exact (pss_cons (ps_set (i := 1) sc_check_order.nd rfl (by first | exact Or.inl rfl | exact Or.inr rfl) pe_int)
    (pss_one (ps_for (passes_of rfl) rfl (pi_enumT rfl T.n_enumerate (pa_cons (pv 0) pa_nil)) (pg_tup rfl (pgs_cons (pg_name (i := 2) sc_check_order.nd rfl (by first | exact Or.inl rfl | exact Or.inr rfl)) (pgs_cons (pg_name (i := 3) sc_check_order.nd rfl (by first | exact Or.inl rfl | exact Or.inr rfl)) pgs_nil))) (pss_cons (ps_if (pt_cmpR o_geI (pv 2) (pv 1) (nomark _)) (pss_one ps_never) pss_nil)
    (pss_one (ps_for (passes_of rfl) rfl (pi_tup (pv 3)) (pg_name (i := 4) sc_check_order.nd rfl (by first | exact Or.inl rfl | exact Or.inr rfl)) (pss_cons (ps_if (pt_cmpR o_gtI (pv 4) (pv 1) (nomark _)) (pss_one ps_never) pss_nil)
    (pss_one (ps_set (i := 1) sc_check_order.nd rfl (by first | exact Or.inl rfl | exact Or.inr rfl) (pe_op o_addI (pv 1) (pe_callTy c_int (by rfl) T.n_int boot_int (pa_cons (pe_cmpR op_eq (pv 4) (pv 1) (nomark _)) pa_nil))))))))))))

end
end K67

set_option Elab.async false
set_option linter.all false
set_option maxRecDepth 100000
set_option maxHeartbeats 4000000
namespace K67
open PySem PySem.Spec PyProof.Rows L2 LX M67
local macro_rules | `(tactic| walk_at "hp") => `(tactic| first | assumption | exact upd_same | (refine up_new (by assumption) ?_; walk_at "hp") | (refine up_ne (by first | assumption | (exact Ne.symm (by assumption))) ?_; walk_at "hp") | (refine up_mut (by assumption) (by intro z; cases z) ?_; walk_at "hp"))
local macro_rules | `(tactic| walk_at "w1") => `(tactic| first
  | (with_reducible refine w_seq ?_) | (with_reducible refine w_asg ?_) | (with_reducible refine w_name ?_) | (with_reducible refine w_ret ?_) | (with_reducible refine w_drop ?_) | (with_reducible refine w_ifS ?_)
  | (with_reducible refine w_var (by with_unfolding_all exact rfl) ?_) | (with_reducible refine w_c ?_) | (with_reducible refine w_op ?_) | (with_reducible refine w_test ?_) | (with_reducible refine w_B ?_)
  | (with_reducible refine w_bl ?_) | (with_reducible refine w_cons ?_) | (with_reducible refine w_nil ?_) | (with_reducible refine w_cb ?_) | (with_reducible refine w_call ?_) | (with_reducible refine w_callS ?_)
  | (with_reducible refine w_addI ?_) | (with_reducible refine w_subI ?_) | (with_reducible refine w_ltI ?_) | (with_reducible refine w_leI ?_) | (with_reducible refine w_gtI ?_) | (with_reducible refine w_geI ?_)
  | (with_reducible refine w_tAnd ?_) | (with_reducible refine w_tOr ?_) | (with_reducible refine w_tNot ?_) | (with_reducible refine w_andV ?_) | (with_reducible refine w_orV ?_) | (with_reducible refine w_notV ?_) | (with_reducible refine w_if ?_)
  | (with_reducible refine w_un ?_) | (with_reducible refine w_neg ?_) | (with_reducible refine w_intI ?_) | (with_reducible refine w_intB ?_) | (with_reducible refine w_abs ?_)
  | (with_reducible refine w_eq (by with_unfolding_all exact rfl) ?_) | (with_reducible refine w_ne (by with_unfolding_all exact rfl) ?_) | (with_reducible refine w_isNone ?_) | (with_reducible refine w_notNone ?_)
  | (with_reducible refine w_tup ?_) | (with_reducible refine w_lst ?_) | (with_reducible refine w_sl ?_) | (with_reducible refine w_noPart ?_) | (with_reducible refine w_part ?_) | (with_reducible refine w_partI ?_)
  | (with_reducible refine w_fld0 ?_) | (with_reducible refine w_rz ?_)
  | (with_reducible refine w_next ?_) | (with_reducible refine w_brk ?_) | (with_reducible refine w_cont ?_) | (with_reducible refine w_retN ?_))
local macro_rules | `(tactic| walk_at "w") => `(tactic| repeat walk_at "w1")
local macro_rules | `(tactic| walk_at "u1") => `(tactic| first | walk_at "w1" | (with_reducible refine w_gsub ?_) | (with_reducible refine w_par ?_) | (with_reducible refine w_par3 ?_) | (with_reducible refine w_pr2 ?_) | (with_reducible refine w_pr3 ?_) | (with_reducible refine w_then ?_) | (with_reducible refine w_for ?_) | (with_reducible refine w_rng1 ?_) | (with_reducible refine w_enumS ?_) | (with_reducible refine w_iList ?_) | (with_reducible refine w_iTup ?_) | (with_reducible refine w_iStr ?_) | (with_reducible refine w_make ?_) | (with_reducible refine w_lc ?_) | (with_reducible refine w_iEnum ?_) | (with_reducible refine w_iEnumT ?_) | (with_reducible refine w_chain ?_) | (with_reducible refine w_bm ?_))
local macro_rules | `(tactic| walk_at "u") => `(tactic| repeat walk_at "u1")
section
variable {P : Program} {w : World} {base : Heap} {G : Gx}
/-! the tree -/
def TreeAt (H : Hp) (t : Addr) (L : List (Nat × Nat)) : Prop := ∃ qs : List Addr, H t = some (.lst (.non :: qs.map V.ref)) ∧ qs.length = L.length ∧ ∀ j, j < L.length → H (qs.getD j 0) = some (.tup [.int ((L.getD j (0, 0)).1 : Nat), .int ((L.getD j (0, 0)).2 : Nat)])
def sp_tree_of (G : Gx) : Sp := fun vs H Q _ => vs.length = 1 ∧ ∃ (p : Addr) (R : List (List Nat)), vs = [.ref p] ∧ Mat .tup .tup H p R ∧ metAll 1 R ≤ 2000 ∧ ∀ t H', H t = none → TreeAt H' t (treeAll 0 1 R) → Same H H' → Q (.ref t) H'
def t_tree_of (G : Gx) (W : WX) : TS :=
  tSeq (tAsg (tLst (tCons (tC .non) tNil)) (gName 1))
  (tSeq (tFor (iEnumT G.K (tCons (tVar 0) tNil)) (gTup G.K 2 (gCons (gName 2) (gCons (gName 3) gNil))) (tFor (iEnumT G.K (tCons (tVar 3) tNil)) (gTup G.K 2 (gCons (gName 4) (gCons (gName 5) gNil))) (tIfS (tTest (tOp rEq (tVar 5) (tCB (LX.rLen G.K) (tCons (tVar 1) tNil)))) (tDrop (tBM G.K "list" rAppend (tVar 1) (tCons (tTup (tCons (tVar 2) (tCons (tVar 4) tNil))) tNil))) tNext)))
  (tRet (tVar 1)))
theorem TreeAt.keep {H H' : Hp} {t : Addr} {L : List (Nat × Nat)} (h : TreeAt H t L) (s : Same H H') : TreeAt H' t L := by
  obtain ⟨qs, h1, h2, h3⟩ := h
  exact ⟨qs, s _ _ h1, h2, fun j hj => s _ _ (h3 j hj)⟩
theorem TreeAt.push {H : Hp} {t q : Addr} {L : List (Nat × Nat)} {a b : Nat} (h : TreeAt H t L) (hq : H q = none) {old : List V} (ho : upd H q (.tup [.int (a : Nat), .int (b : Nat)]) t = some (.lst old)) :
    TreeAt (upd (upd H q (.tup [.int (a : Nat), .int (b : Nat)])) t (.lst (old ++ [.ref q]))) t (L ++ [(a, b)]) := by
  obtain ⟨qs, h1, h2, h3⟩ := h
  have tq : t ≠ q := ne_of_none h1 hq
  rw [upd_ne tq, h1] at ho
  cases ho
  refine ⟨qs ++ [q], by rw [upd_same, List.map_append]; rfl, by rw [List.length_append, List.length_append, h2]; rfl, fun j hj => ?_⟩
  by_cases hlt : j < L.length
  · have e1 : (qs ++ [q]).getD j 0 = qs.getD j 0 := by rw [List.getD_eq_getElem?_getD, List.getElem?_append_left (by omega), ← List.getD_eq_getElem?_getD]
    have e2 : (L ++ [(a, b)]).getD j (0, 0) = L.getD j (0, 0) := by rw [List.getD_eq_getElem?_getD, List.getElem?_append_left hlt, ← List.getD_eq_getElem?_getD]
    rw [e1, e2]
    have h := h3 j hlt
    rw [upd_ne (ne_of h h1 (fun z => nomatch z)), upd_ne (ne_of_none h hq)]
    exact h
  · have hj' : j = L.length := by
      rw [List.length_append] at hj
      have : j < L.length + 1 := hj
      omega
    subst hj'
    have e1 : (qs ++ [q]).getD L.length 0 = q := by rw [List.getD_eq_getElem?_getD, List.getElem?_append_right (by omega), h2, Nat.sub_self]; rfl
    have e2 : (L ++ [(a, b)]).getD L.length (0, 0) = (a, b) := by rw [List.getD_eq_getElem?_getD, List.getElem?_append_right (Nat.le_refl _), Nat.sub_self]; rfl
    rw [e1, e2, upd_ne tq.symm, upd_same]
theorem TreeAt.lst {H : Hp} {t : Addr} {L : List (Nat × Nat)} (h : TreeAt H t L) : ∃ old : List V, H t = some (.lst old) ∧ old.length = L.length + 1 := by
  obtain ⟨qs, h1, h2, _⟩ := h
  exact ⟨_, h1, by rw [List.length_cons, refs_len, h2]⟩
theorem pure_tree_of (T : Txt G) (vs : List V) (H : Hp) (Q : VK) (E : XK) (h : sp_tree_of G vs H Q E) : t_tree_of G (fun cls d _ H => E cls d H) { nx := fun _ H' => Q .non H', rt := Q } (start ["right", "found", "number", "row", "letter", "other"] vs) H := by
  obtain ⟨_, p, R, rfl, m, hm, kk⟩ := h
  obtain ⟨ps, hp, hl, hrow⟩ := m
  unfold t_tree_of
  walk_at "u"
  refine ⟨by show 1 ≤ sizeLine; decide, fun t ht => ?_⟩
  walk_at "u"
  refine ⟨p, _, rfl, SqT.of (up_new ht hp), ?_⟩
  refine for_enR (enR_tup G.K p (ps.map V.ref)) (fun i σ H' => (∃ a b c d : Option V, σ = [some (.ref p), some (.ref t), a, b, c, d]) ∧ Same H H' ∧ TreeAt H' t (treeAll 0 1 (R.take i))) (fun _ _ _ z => SqT.of (z.2.1 _ _ hp))
    ⟨⟨_, _, _, _, rfl⟩, same_new (Same.refl H) ht, ⟨[], upd_same, rfl, fun j hj => absurd hj (Nat.not_lt_zero j)⟩⟩ (fun i σ Ha Tn hi z nT => ?_) (fun σ Ha z => ?_)
  rotate_left
  · obtain ⟨⟨a, b, c, d, rfl⟩, sa, ta⟩ := z
    walk_at "u"
    rw [refs_len, hl, List.take_length] at ta
    exact kk t _ ht ta sa
  obtain ⟨⟨a, b, c, d, rfl⟩, sa, ta⟩ := z
  rw [refs_len] at hi
  have hiR : i < R.length := by omega
  refine w_gT2 upd_same ?_
  rw [refs_getD hi]
  have sT : Same H (upd Ha Tn (.tup [.int (i : Nat), .ref (ps.getD i 0)])) := same_new sa nT
  have tT : TreeAt (upd Ha Tn (.tup [.int (i : Nat), .ref (ps.getD i 0)])) t (treeAll 0 1 (R.take i)) := ta.keep (same_new (Same.refl Ha) nT)
  generalize upd Ha Tn (.tup [.int (i : Nat), .ref (ps.getD i 0)]) = Hb at sT tT
  have hrb := sT _ _ (hrow i hiR)
  have lt : (R.take i).length = i := by rw [List.length_take]; omega
  have hnext : treeAll 0 1 (R.take (i + 1)) = treeAll 0 1 (R.take i) ++ treeRow i 0 (metAll 1 (R.take i)) (R.getD i []) := by
    rw [take_succ_of (d := []) hiR, treeAll_app, lt, Nat.zero_add]
    show _ ++ (treeRow i 0 _ _ ++ []) = _
    rw [List.append_nil]
  have hM : (treeAll 0 1 (R.take i)).length + 1 = metAll 1 (R.take i) := by
    have := treeAll_len (R.take i) 0 1
    omega
  have hle : metRow (metAll 1 (R.take i)) (R.getD i []) ≤ 2000 := by
    have e : metRow (metAll 1 (R.take i)) (R.getD i []) = metAll 1 (R.take (i + 1)) := by
      rw [take_succ_of (d := []) hiR, metAll_app]
      rfl
    rw [e]
    refine Nat.le_trans ?_ hm
    rw [← List.take_append_drop (i + 1) R, metAll_app, List.take_append_drop]
    exact metAll_le _ _
  generalize metAll 1 (R.take i) = M at hnext hM hle
  generalize treeAll 0 1 (R.take i) = L0 at hnext hM tT
  generalize R.getD i [] = row at hrb hnext hle
  walk_at "u"
  refine ⟨_, _, rfl, SqT.of hrb, ?_⟩
  refine for_enR (enR_tup G.K (ps.getD i 0) (IL row)) (fun j σ H' => (∃ a b : Option V, σ = [some (.ref p), some (.ref t), some (.int (i : Nat)), some (.ref (ps.getD i 0)), a, b]) ∧ Same H H' ∧ H' (ps.getD i 0) = some (.tup (IL row)) ∧ TreeAt H' t (L0 ++ treeRow i 0 M (row.take j)))
    (fun _ _ _ z => SqT.of z.2.2.1) ⟨⟨_, _, rfl⟩, sT, hrb, by rw [List.take_zero]; show TreeAt Hb t (L0 ++ []); rw [List.append_nil]; exact tT⟩ (fun j σ Hc Un hj z nU => ?_) (fun σ Hc z => ?_)
  rotate_left
  · obtain ⟨⟨a, b, rfl⟩, sc, hc, tc⟩ := z
    rw [IL_len, List.take_length, ← hnext] at tc
    exact ⟨⟨_, _, _, _, rfl⟩, sc, tc⟩
  obtain ⟨⟨a, b, rfl⟩, sc, hc, tc⟩ := z
  rw [IL_len] at hj
  refine w_gT2 upd_same ?_
  rw [IL_getD hj]
  have sd : Same H (upd Hc Un (.tup [.int (j : Nat), .int (row.getD j 0 : Nat)])) := same_new sc nU
  have hd : upd Hc Un (.tup [.int (j : Nat), .int (row.getD j 0 : Nat)]) (ps.getD i 0) = some (.tup (IL row)) := up_new nU hc
  have td := tc.keep (same_new (o := .tup [.int (j : Nat), .int (row.getD j 0 : Nat)]) (Same.refl Hc) nU)
  generalize upd Hc Un (.tup [.int (j : Nat), .int (row.getD j 0 : Nat)]) = Hd at sd hd td
  have hrow1 : treeRow i 0 M (row.take (j + 1)) = treeRow i 0 M (row.take j) ++ if row.getD j 0 = metRow M (row.take j) then [(i, j)] else [] := by
    have lj : (row.take j).length = j := by rw [List.length_take]; omega
    rw [take_succ_of (d := 0) hj, treeRow_app, lj, Nat.zero_add]
    rfl
  have hlen : (L0 ++ treeRow i 0 M (row.take j)).length + 1 = metRow M (row.take j) := by
    have := treeRow_len i (row.take j) 0 M
    rw [List.length_append]
    omega
  have hm1 : metRow M (row.take j) ≤ 2000 := by
    refine Nat.le_trans ?_ hle
    rw [← List.take_append_drop j row, metRow_app, List.take_append_drop]
    exact metRow_le _ _
  walk_at "u"
  obtain ⟨old, ho, hol⟩ := td.lst
  refine w_lenL (SqL.of ho) ?_
  walk_at "u"
  rw [hol, hlen]
  refine w_ite (fun e => ?_) fun e => ?_
  · have e' : row.getD j 0 = metRow M (row.take j) := by
      have := V.int.inj e
      omega
    walk_at "u"
    refine ⟨ty_list (SqL.of ho), ?_⟩
    walk_at "u"
    refine ⟨by show 2 ≤ sizeLine; decide, fun q hq => ?_⟩
    walk_at "u"
    have hoq : upd Hd q (.tup [.int (i : Nat), .int (j : Nat)]) t = some (.lst old) := up_new hq ho
    refine w_appL hoq (by rw [hol, hlen, sizeLine_eq]; omega) ?_
    walk_at "u"
    refine ⟨⟨_, _, rfl⟩, same_mut (same_new sd hq) ht, ?_, ?_⟩
    · rw [upd_ne (ne_of hd ho (fun z => nomatch z))]
      exact up_new hq hd
    · rw [hrow1, if_pos e', ← List.append_assoc]
      exact td.push hq hoq
  · have e' : row.getD j 0 ≠ metRow M (row.take j) := fun z => e (by rw [z])
    walk_at "u"
    refine ⟨⟨_, _, rfl⟩, sd, hd, ?_⟩
    rw [hrow1, if_neg e', List.append_nil]
    exact td
theorem ok_tree_of (T : Txt G) : FnOk P w G.K G.mg base (L2.CX P w) 1 G.f_tree_of G.d_tree_of ["right"] (sp_tree_of G) := by
  refine T.F_tree_of.okX sc_tree_of (fun _ _ _ _ h => h.1) (fun cdv A outer s H vs Q E hr h => ⟨t_tree_of G (fun cls d _ H => E cls d H), ?_, pure_tree_of T vs H Q E h⟩)
  have tk : Takes (cxOf (L2.CX P w) P w G.K G.mg base ["right", "found", "number", "row", "letter", "other"] "tree_of" (defScope s_tree_of) G.f_tree_of cdv A outer s H E) (fun cls d _ H => E cls d H) := takes_of rfl rfl rfl rfl
  exact (pss_cons (ps_set (i := 1) sc_tree_of.nd rfl (by first | exact Or.inl rfl | exact Or.inr rfl) (pe_lst (pa_cons pe_non pa_nil)))
    (pss_cons (ps_for (passes_of rfl) rfl (pi_enumT rfl T.n_enumerate (pa_cons (pv 0) pa_nil)) (pg_tup rfl (pgs_cons (pg_name (i := 2) sc_tree_of.nd rfl (by first | exact Or.inl rfl | exact Or.inr rfl)) (pgs_cons (pg_name (i := 3) sc_tree_of.nd rfl (by first | exact Or.inl rfl | exact Or.inr rfl)) pgs_nil))) (pss_one (ps_for (passes_of rfl) rfl (pi_enumT rfl T.n_enumerate (pa_cons (pv 3) pa_nil)) (pg_tup rfl (pgs_cons (pg_name (i := 4) sc_tree_of.nd rfl (by first | exact Or.inl rfl | exact Or.inr rfl)) (pgs_cons (pg_name (i := 5) sc_tree_of.nd rfl (by first | exact Or.inl rfl | exact Or.inr rfl)) pgs_nil))) (pss_one (ps_if (pt_cmpR op_eq (pv 5) (pe_callB c_len (by rfl) T.n_len PySem.boot_len (pa_cons (pv 1) pa_nil)) (nomark _)) (pss_one (ps_expr (pe_bm PySem.F.plainAttrs_list PySem.F.slot_list_append PySem.F.type_list_append mt_append (pv 1) (pa_cons (pe_tup (pa_cons (pv 2) (pa_cons (pv 4) pa_nil))) pa_nil)))) pss_nil)))))
    (pss_one (ps_ret (pv 1)))))

end
end K67

set_option Elab.async false
set_option linter.all false
set_option maxRecDepth 100000
set_option maxHeartbeats 4000000
namespace K67
open PySem PySem.Spec PyProof.Rows L2 LX M67
local macro_rules | `(tactic| walk_at "hp") => `(tactic| first | assumption | exact upd_same | (refine up_new (by assumption) ?_; walk_at "hp") | (refine up_ne (by first | assumption | (exact Ne.symm (by assumption))) ?_; walk_at "hp") | (refine up_mut (by assumption) (by intro z; cases z) ?_; walk_at "hp"))
local macro_rules | `(tactic| walk_at "w1") => `(tactic| first
  | (with_reducible refine w_seq ?_) | (with_reducible refine w_asg ?_) | (with_reducible refine w_name ?_) | (with_reducible refine w_ret ?_) | (with_reducible refine w_drop ?_) | (with_reducible refine w_ifS ?_)
  | (with_reducible refine w_var (by with_unfolding_all exact rfl) ?_) | (with_reducible refine w_c ?_) | (with_reducible refine w_op ?_) | (with_reducible refine w_test ?_) | (with_reducible refine w_B ?_)
  | (with_reducible refine w_bl ?_) | (with_reducible refine w_cons ?_) | (with_reducible refine w_nil ?_) | (with_reducible refine w_cb ?_) | (with_reducible refine w_call ?_) | (with_reducible refine w_callS ?_)
  | (with_reducible refine w_addI ?_) | (with_reducible refine w_subI ?_) | (with_reducible refine w_ltI ?_) | (with_reducible refine w_leI ?_) | (with_reducible refine w_gtI ?_) | (with_reducible refine w_geI ?_)
  | (with_reducible refine w_tAnd ?_) | (with_reducible refine w_tOr ?_) | (with_reducible refine w_tNot ?_) | (with_reducible refine w_andV ?_) | (with_reducible refine w_orV ?_) | (with_reducible refine w_notV ?_) | (with_reducible refine w_if ?_)
  | (with_reducible refine w_un ?_) | (with_reducible refine w_neg ?_) | (with_reducible refine w_intI ?_) | (with_reducible refine w_intB ?_) | (with_reducible refine w_abs ?_)
  | (with_reducible refine w_eq (by with_unfolding_all exact rfl) ?_) | (with_reducible refine w_ne (by with_unfolding_all exact rfl) ?_) | (with_reducible refine w_isNone ?_) | (with_reducible refine w_notNone ?_)
  | (with_reducible refine w_tup ?_) | (with_reducible refine w_lst ?_) | (with_reducible refine w_sl ?_) | (with_reducible refine w_noPart ?_) | (with_reducible refine w_part ?_) | (with_reducible refine w_partI ?_)
  | (with_reducible refine w_fld0 ?_) | (with_reducible refine w_rz ?_)
  | (with_reducible refine w_next ?_) | (with_reducible refine w_brk ?_) | (with_reducible refine w_cont ?_) | (with_reducible refine w_retN ?_))
local macro_rules | `(tactic| walk_at "w") => `(tactic| repeat walk_at "w1")
local macro_rules | `(tactic| walk_at "u1") => `(tactic| first | walk_at "w1" | (with_reducible refine w_gsub ?_) | (with_reducible refine w_par ?_) | (with_reducible refine w_par3 ?_) | (with_reducible refine w_pr2 ?_) | (with_reducible refine w_pr3 ?_) | (with_reducible refine w_then ?_) | (with_reducible refine w_for ?_) | (with_reducible refine w_rng1 ?_) | (with_reducible refine w_enumS ?_) | (with_reducible refine w_iList ?_) | (with_reducible refine w_iTup ?_) | (with_reducible refine w_iStr ?_) | (with_reducible refine w_make ?_) | (with_reducible refine w_lc ?_) | (with_reducible refine w_iEnum ?_) | (with_reducible refine w_iEnumT ?_) | (with_reducible refine w_chain ?_) | (with_reducible refine w_bm ?_))
local macro_rules | `(tactic| walk_at "u") => `(tactic| repeat walk_at "u1")
section
variable {P : Program} {w : World} {base : Heap} {G : Gx}
/-! the left products -/
def IsListed (R : List (List Nat)) (k : Nat) : Prop := ∃ (α : Type) (A : List α) (r l : Nat → α → α) (one : α), Listed α R k A r l one
theorem map_IL (f : Nat → Nat) (ns : List Nat) : (List.range ns.length).map (fun d => V.int ((f (ns.getD d 0) : Nat) : Int)) = IL (ns.map f) := by
  have := range_getD (α := Nat) (fun d => V.int ((f (ns.getD d 0) : Nat) : Int)) (ns.map f) fun i hi => by
    rw [List.length_map] at hi
    rw [List.getD_eq_getElem?_getD, List.getD_eq_getElem?_getD, List.getElem?_map, List.getElem?_eq_getElem hi]
    rfl
  rwa [List.length_map] at this
def sp_left_of (G : Gx) : Sp := fun vs H Q _ => vs.length = 2 ∧ ∃ (p t : Addr) (R : List (List Nat)) (k : Nat), vs = [.ref p, .ref t] ∧ Mat .tup .tup H p R ∧ TreeAt H t (treeAll 0 1 R) ∧ IsListed R k ∧ R.length ≤ 2000 ∧ k ≤ 6 ∧ ∀ q H', Mat .tup .tup H' q (lefts R) → Same H H' → Q (.ref q) H'
def t_left_of (G : Gx) (W : WX) : TS :=
  tSeq (tAsg (tLst (tCons (tThen (tOp (rIxT G.K) (tVar 0) (tC (.int 0))) (kTup G.K)) tNil)) (gName 2))
  (tSeq (tFor (iList G.K (tSl (rSlL G.K) (tVar 1) (tPart (tC (.int 1))) tNoPart)) (gTup G.K 2 (gCons (gName 3) (gCons (gName 4) gNil))) (tDrop (tBM G.K "list" rAppend (tVar 2) (tCons (tThen (tLc (iTup G.K (tOp (rIxL G.K) (tVar 2) (tVar 3))) (gName 5) tYes (tOp (rIxT G.K) (tOp (rIxT G.K) (tVar 0) (tVar 5)) (tVar 4)) [5]) (kTup G.K)) tNil))))
  (tRet (tThen (tVar 2) (kTup G.K))))
theorem cutV_tail (x : V) (xs : List V) : cutV (x :: xs) (some 1) none = xs := by
  have e1 : HT.sIx (x :: xs).length 0 (some 1) = 1 := by
    have := HT.sIx_nat (x :: xs).length 0 1
    rw [show ((1 : Nat) : Int) = 1 from rfl] at this
    rw [this, List.length_cons]
    omega
  unfold cutV
  rw [e1]
  show ((x :: xs).drop 1).take ((x :: xs).length - 1) = xs
  rw [List.drop_one, List.tail_cons, List.length_cons, Nat.add_sub_cancel, List.take_length]
theorem pure_left_of (T : Txt G) (vs : List V) (H : Hp) (Q : VK) (E : XK) (h : sp_left_of G vs H Q E) : t_left_of G (fun cls d _ H => E cls d H) { nx := fun _ H' => Q .non H', rt := Q } (start ["right", "tree", "found", "ahead", "letter", "number"] vs) H := by
  obtain ⟨_, p, t, R, k, rfl, m, tr, ⟨α, A, r, l, one, LL⟩, h2000, hk6, kk⟩ := h
  obtain ⟨ps, hp, hl, hrow⟩ := m
  obtain ⟨qs, ht, hql, hq⟩ := tr
  have pos := LL.pos
  unfold t_left_of
  walk_at "u"
  refine w_ixT (SqT.of hp) (by exact refs_at (i := 0) (by omega)) ?_
  refine w_kTupT (SqT.of (hrow 0 pos)) ?_
  walk_at "u"
  refine ⟨by show 1 ≤ sizeLine; decide, fun f hf => ?_⟩
  walk_at "u"
  refine ⟨t, _, rfl, SqL.of (up_new hf ht), fun c hc => ?_⟩
  rw [cutV_tail]
  refine ⟨c, rfl, ⟨_, SqL.of upd_same⟩, ?_⟩
  have s1 : Same H (upd (upd H f (.lst [.ref (ps.getD 0 0)])) c (.lst (qs.map V.ref))) := same_new (same_new (Same.refl H) hf) hc
  have f1 : upd (upd H f (.lst [.ref (ps.getD 0 0)])) c (.lst (qs.map V.ref)) f = some (.lst [.ref (ps.getD 0 0)]) := up_new hc upd_same
  have c1 : upd (upd H f (.lst [.ref (ps.getD 0 0)])) c (.lst (qs.map V.ref)) c = some (.lst (qs.map V.ref)) := upd_same
  have cf : c ≠ f := (ne_of_none upd_same hc).symm
  generalize upd (upd H f (.lst [.ref (ps.getD 0 0)])) c (.lst (qs.map V.ref)) = H1 at s1 f1 c1
  have tl := LL.tree_len
  -- the lists so far
  let Ls : Nat → List (List Nat) := fun j => leftFrom R [R.getD 0 []] ((treeAll 0 1 R).take j)
  have Lslen : ∀ j, j ≤ (treeAll 0 1 R).length → (Ls j).length = 1 + j := fun j hj => by
    show (leftFrom R _ _).length = _
    rw [leftFrom_len, List.length_take, List.length_singleton]
    omega
  refine for_fixR (fixR_list G.K c (qs.map V.ref)) (fun j σ H' => (∃ a b d : Option V, σ = [some (.ref p), some (.ref t), some (.ref f), a, b, d]) ∧ Same H H' ∧ H' c = some (.lst (qs.map V.ref)) ∧
      ∃ ls : List Addr, H' f = some (.lst (ls.map V.ref)) ∧ ls.length = 1 + j ∧ ∀ i, i < 1 + j → H' (ls.getD i 0) = some (.tup (IL ((Ls j).getD i []))))
    (fun _ _ _ z => SqL.of z.2.2.1) ⟨⟨_, _, _, rfl⟩, s1, c1, [ps.getD 0 0], f1, rfl, fun i hi => ?_⟩ (fun j σ Ha hj z => ?_) (fun σ Ha z => ?_)
  · obtain rfl : i = 0 := by omega
    exact s1 _ _ (hrow 0 pos)
  · obtain ⟨⟨a, b, d, rfl⟩, sa, ca, ls, hf1, hll, hls⟩ := z
    rw [refs_len, hql] at hj
    rw [refs_getD (by omega)]
    have htj : (treeAll 0 1 R)[j]? = some ((treeAll 0 1 R).getD j (0, 0)) := by
      have q := List.getElem?_eq_getElem hj
      rw [q, getD_of q]
    have hqa := sa _ _ (hq j hj)
    generalize hab : (treeAll 0 1 R).getD j (0, 0) = ab at htj hqa
    obtain ⟨x, y⟩ := ab
    obtain ⟨hx, hy, hxR, hxy⟩ := LL.tree_at htj
    refine w_gT2 hqa ?_
    walk_at "u"
    refine ⟨ty_list (SqL.of hf1), ?_⟩
    walk_at "u"
    refine w_ixL (SqL.of hf1) (refs_at (by omega)) ?_
    refine ⟨_, rfl, ⟨_, SqT.of (hls x hx)⟩, fun Dl hD => ?_⟩
    have okL : LeftOk R k A l (Ls j) := by
      refine LL.leftFrom_ok_take j (by omega)
    have hLx : (Ls j)[x]? = some ((Ls j).getD x []) := by
      have q := List.getElem?_eq_getElem (l := Ls j) (i := x) (by rw [Lslen j (by omega)]; omega)
      rw [q, getD_of q]
    obtain ⟨lk, ld⟩ := okL x _ hLx
    have hcell := hls x hx
    generalize (Ls j).getD x [] = row at lk ld hcell hLx
    refine lc_mapR (i := 5) (fixR_tup G.K (ls.getD x 0) (IL row)) (fun d => .int ((at2 R (row.getD d 0) y : Nat) : Int)) (by rw [IL_len, lk]; omega) hD (fun Hx sx => SqT.of (sx _ _ hcell)) (fun _ => rfl) (fun d Hx Qx hd sx qx => ?_) fun Hx sx ex => ?_
    · rw [IL_len] at hd
      rw [IL_getD hd]
      obtain ⟨_, _, hlt, _⟩ := ld d (by omega)
      walk_at "u"
      refine w_ixT (SqT.of (sx _ _ (sa _ _ hp))) (refs_at (by omega)) ?_
      walk_at "u"
      obtain ⟨row2, _, e2, l2, _⟩ := LL.row hlt
      refine w_ixT (SqT.of (sx _ _ (sa _ _ (hrow _ hlt)))) (IL_at (by rw [e2]; omega)) ?_
      exact qx _ (Same.refl _)
    · rw [IL_len, map_IL (fun z => at2 R z y) row] at ex
      refine w_kTupL (SqL.of ex) fun q hq' => ?_
      walk_at "u"
      have hf2 : upd Hx q (.tup (IL (row.map fun z => at2 R z y))) f = some (.lst (ls.map V.ref)) := up_new hq' (sx _ _ hf1)
      refine w_appL hf2 (by rw [refs_len, hll, sizeLine_eq]; omega) ?_
      walk_at "u"
      have fa : f ≠ q := ne_of_none (sx _ _ hf1) hq'
      refine ⟨⟨_, _, _, rfl⟩, same_mut (same_new (sa.trans sx) hq') hf, ?_, ls ++ [q], ?_, by rw [List.length_append, hll]; rfl, fun i hi => ?_⟩
      · rw [upd_ne cf]
        exact up_new hq' (sx _ _ ca)
      · rw [upd_same, List.map_append]
        rfl
      · have en : Ls (j + 1) = Ls j ++ [row.map fun z => at2 R z y] := by
          show leftFrom R [R.getD 0 []] ((treeAll 0 1 R).take (j + 1)) = _
          rw [take_succ_of (d := (0, 0)) hj, hab, leftFrom_app]
          show Ls j ++ [((Ls j).getD x []).map fun z => at2 R z y] = _
          rw [getD_of hLx]
        rw [en]
        by_cases hi2 : i < 1 + j
        · rw [List.getD_eq_getElem?_getD, List.getElem?_append_left (by omega), ← List.getD_eq_getElem?_getD, List.getD_eq_getElem?_getD (l := Ls j ++ _), List.getElem?_append_left (by rw [Lslen j (by omega)]; exact hi2), ← List.getD_eq_getElem?_getD]
          have h0 := hls i hi2
          rw [upd_ne (ne_of h0 hf1 (fun z => nomatch z))]
          exact up_new hq' (sx _ _ h0)
        · obtain rfl : i = 1 + j := by omega
          have e1 : (ls ++ [q]).getD (1 + j) 0 = q := by rw [List.getD_eq_getElem?_getD, List.getElem?_append_right (by omega), hll, Nat.sub_self]; rfl
          have e2 : (Ls j ++ [row.map fun z => at2 R z y]).getD (1 + j) [] = row.map fun z => at2 R z y := by rw [List.getD_eq_getElem?_getD, List.getElem?_append_right (by rw [Lslen j (by omega)]; exact Nat.le_refl _), Lslen j (by omega), Nat.sub_self]; rfl
          rw [e1, e2, upd_ne fa.symm, upd_same]
  · obtain ⟨⟨a, b, d, rfl⟩, sa, ca, ls, hf1, hll, hls⟩ := z
    rw [refs_len, hql] at hll hls
    walk_at "u"
    refine w_kTupL (SqL.of hf1) fun q hq' => ?_
    have eL : Ls (treeAll 0 1 R).length = lefts R := by
      show leftFrom R [R.getD 0 []] ((treeAll 0 1 R).take _) = _
      rw [List.take_length]
      rfl
    refine kk q _ ⟨ls, upd_same, ?_, fun i hi => ?_⟩ (same_new sa hq')
    · rw [← eL, Lslen _ (Nat.le_refl _), hll]
    · rw [← eL, Lslen _ (Nat.le_refl _)] at hi
      rw [← eL]
      exact up_new hq' (hls i hi)
theorem ok_left_of (T : Txt G) : FnOk P w G.K G.mg base (L2.CX P w) 1 G.f_left_of G.d_left_of ["right", "tree"] (sp_left_of G) := by
  refine T.F_left_of.okX sc_left_of (fun _ _ _ _ h => h.1) (fun cdv A outer s H vs Q E hr h => ⟨t_left_of G (fun cls d _ H => E cls d H), ?_, pure_left_of T vs H Q E h⟩)
  have tk : Takes (cxOf (L2.CX P w) P w G.K G.mg base ["right", "tree", "found", "ahead", "letter", "number"] "left_of" (defScope s_left_of) G.f_left_of cdv A outer s H E) (fun cls d _ H => E cls d H) := takes_of rfl rfl rfl rfl
  exact (pss_cons (ps_set (i := 2) sc_left_of.nd rfl (by first | exact Or.inl rfl | exact Or.inr rfl) (pe_lst (pa_cons (pe_tupleOf rfl T.n_tuple (pe_ix ix_tup (pv 0) pe_int (fun _ _ => rfl))) pa_nil)))
    (pss_cons (ps_for (passes_of rfl) rfl (pi_list (pe_slice sl_list (pv 1) (po_some pe_int) po_none)) (pg_tup rfl (pgs_cons (pg_name (i := 3) sc_left_of.nd rfl (by first | exact Or.inl rfl | exact Or.inr rfl)) (pgs_cons (pg_name (i := 4) sc_left_of.nd rfl (by first | exact Or.inl rfl | exact Or.inr rfl)) pgs_nil))) (pss_one (ps_expr (pe_bm PySem.F.plainAttrs_list PySem.F.slot_list_append PySem.F.type_list_append mt_append (pv 2) (pa_cons (pe_tupleOf rfl T.n_tuple (pe_lc (own := [("number", 5)]) (g := (gName 5)) (tt := tYes) rfl sc_left_of.nd (pi_tup (pe_ix ix_list (pv 2) (pv 3) (fun _ _ => rfl))) (blkOk_by (N := ["right", "tree", "found", "ahead", "letter", "number"]) (sc := defScope s_left_of) (by decide +kernel)) (fun _ _ _ _ _ => pg_name (i := 5) sc_left_of.nd rfl (by first | exact Or.inl rfl | exact Or.inr rfl)) (fun _ _ _ _ _ => pts_nil) (fun _ _ _ _ _ => pe_ix ix_tup (pe_ix ix_tup (pv 0) (pv 5) (fun _ _ => rfl)) (pv 4) (fun _ _ => rfl)))) pa_nil)))))
    (pss_one (ps_ret (pe_tupleOf rfl T.n_tuple (pv 2))))))

def sp_check_products (G : Gx) : Sp := fun vs H Q _ => vs.length = 2 ∧ ∃ (p q : Addr) (R : List (List Nat)) (k : Nat), vs = [.ref p, .ref q] ∧ Mat .tup .tup H p R ∧ Mat .tup .tup H q (lefts R) ∧ IsListed R k ∧ R.length ≤ 2000 ∧ k ≤ 6 ∧ ∀ H', Same H H' → Q .non H'
def t_check_products (G : Gx) (W : WX) : TS :=
  tFor (iEnumT G.K (tCons (tVar 0) tNil)) (gTup G.K 2 (gCons (gName 2) (gCons (gName 3) gNil))) (tFor (iEnumT G.K (tCons (tVar 3) tNil)) (gTup G.K 2 (gCons (gName 4) (gCons (gName 5) gNil))) (tIfS (tTest (tOp (rNeD G.K) (tOp (rIxT G.K) (tVar 1) (tVar 5)) (tThen (tLc (iTup G.K (tOp (rIxT G.K) (tVar 1) (tVar 2))) (gName 6) tYes (tOp (rIxT G.K) (tOp (rIxT G.K) (tVar 0) (tVar 6)) (tVar 4)) [6]) (kTup G.K)))) tNever tNext))
theorem pure_check_products (T : Txt G) (vs : List V) (H : Hp) (Q : VK) (E : XK) (h : sp_check_products G vs H Q E) : t_check_products G (fun cls d _ H => E cls d H) { nx := fun _ H' => Q .non H', rt := Q } (start ["right", "left", "number", "row", "letter", "other", "one"] vs) H := by
  obtain ⟨_, p, q, R, k, rfl, ⟨ps, hp, hl, hrow⟩, ⟨us, hu, hul, hur⟩, ⟨α, A, r, l, one, LL⟩, h2000, hk6, kk⟩ := h
  have Llen := LL.lefts_len
  unfold t_check_products
  walk_at "u"
  refine ⟨p, _, rfl, SqT.of hp, ?_⟩
  refine for_enR (enR_tup G.K p (ps.map V.ref)) (fun i σ H' => (∃ a b c d e : Option V, σ = [some (.ref p), some (.ref q), a, b, c, d, e]) ∧ Same H H') (fun _ _ _ z => SqT.of (z.2 _ _ hp)) ⟨⟨_, _, _, _, _, rfl⟩, Same.refl H⟩ (fun i σ Ha Tn hi z nT => ?_) (fun σ Ha z => kk _ z.2)
  obtain ⟨⟨a, b, c, d, e, rfl⟩, sa⟩ := z
  rw [refs_len] at hi
  have hiR : i < R.length := by omega
  refine w_gT2 upd_same ?_
  rw [refs_getD hi]
  have sT : Same H (upd Ha Tn (.tup [.int (i : Nat), .ref (ps.getD i 0)])) := same_new sa nT
  generalize upd Ha Tn (.tup [.int (i : Nat), .ref (ps.getD i 0)]) = Hb at sT
  walk_at "u"
  refine ⟨_, _, rfl, SqT.of (sT _ _ (hrow i hiR)), ?_⟩
  obtain ⟨rw1, _, er, lr, hx⟩ := LL.row hiR
  refine for_enR (enR_tup G.K (ps.getD i 0) (IL (R.getD i []))) (fun j σ H' => (∃ c d e : Option V, σ = [some (.ref p), some (.ref q), some (.int (i : Nat)), some (.ref (ps.getD i 0)), c, d, e]) ∧ Same H H') (fun _ _ _ z => SqT.of (z.2 _ _ (hrow i hiR))) ⟨⟨_, _, _, rfl⟩, sT⟩ (fun j σ Hc Un hj z nU => ?_)
    (fun σ Hc z => by obtain ⟨⟨c, d, e, rfl⟩, sc⟩ := z; exact ⟨⟨_, _, _, _, _, rfl⟩, sc⟩)
  obtain ⟨⟨c, d, e, rfl⟩, sc⟩ := z
  rw [IL_len, er, lr] at hj
  refine w_gT2 upd_same ?_
  have ej : (R.getD i []).getD j 0 = at2 R i j := rfl
  rw [IL_getD (by rw [er]; omega), ej]
  have sd : Same H (upd Hc Un (.tup [.int (j : Nat), .int (at2 R i j : Nat)])) := same_new sc nU
  generalize upd Hc Un (.tup [.int (j : Nat), .int (at2 R i j : Nat)]) = Hd at sd
  have ho := LL.at2_lt hiR hj
  walk_at "u"
  refine w_ixT (SqT.of (sd _ _ hu)) (refs_at (by omega)) ?_
  walk_at "u"
  refine w_ixT (SqT.of (sd _ _ hu)) (refs_at (by omega)) ?_
  have hcell := sd _ _ (hur i (by omega))
  refine ⟨_, rfl, ⟨_, SqT.of hcell⟩, fun Dl hD => ?_⟩
  have okL := LL.lefts_ok
  have hLx : (lefts R)[i]? = some ((lefts R).getD i []) := by
    have q := List.getElem?_eq_getElem (l := lefts R) (i := i) (by omega)
    rw [q, getD_of q]
  obtain ⟨lk, ld⟩ := okL i _ hLx
  have hprod := LL.products hiR hj
  generalize (lefts R).getD i [] = row at lk ld hcell hLx hprod
  refine lc_mapR (i := 6) (fixR_tup G.K (us.getD i 0) (IL row)) (fun d => .int ((at2 R (row.getD d 0) j : Nat) : Int)) (by rw [IL_len, lk]; omega) hD (fun Hx sx => SqT.of (sx _ _ hcell)) (fun _ => rfl) (fun d Hx Qx hd sx qx => ?_) fun Hx sx ex => ?_
  · rw [IL_len] at hd
    rw [IL_getD hd]
    obtain ⟨_, _, hlt, _⟩ := ld d (by omega)
    walk_at "u"
    refine w_ixT (SqT.of (sx _ _ (sd _ _ hp))) (refs_at (by omega)) ?_
    walk_at "u"
    obtain ⟨row2, _, e2, l2, _⟩ := LL.row hlt
    refine w_ixT (SqT.of (sx _ _ (sd _ _ (hrow _ hlt)))) (IL_at (by rw [e2]; omega)) ?_
    exact qx _ (Same.refl _)
  · rw [IL_len, map_IL (fun z => at2 R z j) row, ← hprod] at ex
    refine w_kTupL (SqL.of ex) fun z hz => ?_
    refine ne_tups (up_new hz (sx _ _ (sd _ _ (hur _ (by omega))))) upd_same ?_
    walk_at "u"
    refine iteF ?_
    walk_at "u"
    exact ⟨⟨_, _, _, rfl⟩, same_new (sd.trans sx) hz⟩
theorem ok_check_products (T : Txt G) : FnOk P w G.K G.mg base (L2.CX P w) 1 G.f_check_products G.d_check_products ["right", "left"] (sp_check_products G) := by
  refine T.F_check_products.okX sc_check_products (fun _ _ _ _ h => h.1) (fun cdv A outer s H vs Q E hr h => ⟨t_check_products G (fun cls d _ H => E cls d H), ?_, pure_check_products T vs H Q E h⟩)
  have tk : Takes (cxOf (L2.CX P w) P w G.K G.mg base ["right", "left", "number", "row", "letter", "other", "one"] "check_products" (defScope s_check_products) G.f_check_products cdv A outer s H E) (fun cls d _ H => E cls d H) := takes_of rfl rfl rfl rfl
  exact (pss_one (ps_for (passes_of rfl) rfl (pi_enumT rfl T.n_enumerate (pa_cons (pv 0) pa_nil)) (pg_tup rfl (pgs_cons (pg_name (i := 2) sc_check_products.nd rfl (by first | exact Or.inl rfl | exact Or.inr rfl)) (pgs_cons (pg_name (i := 3) sc_check_products.nd rfl (by first | exact Or.inl rfl | exact Or.inr rfl)) pgs_nil))) (pss_one (ps_for (passes_of rfl) rfl (pi_enumT rfl T.n_enumerate (pa_cons (pv 3) pa_nil)) (pg_tup rfl (pgs_cons (pg_name (i := 4) sc_check_products.nd rfl (by first | exact Or.inl rfl | exact Or.inr rfl)) (pgs_cons (pg_name (i := 5) sc_check_products.nd rfl (by first | exact Or.inl rfl | exact Or.inr rfl)) pgs_nil))) (pss_one (ps_if (pt_cmpR (op_neD (hu64 hr)) (pe_ix ix_tup (pv 1) (pv 5) (fun _ _ => rfl)) (pe_tupleOf rfl T.n_tuple (pe_lc (own := [("one", 6)]) (g := (gName 6)) (tt := tYes) rfl sc_check_products.nd (pi_tup (pe_ix ix_tup (pv 1) (pv 2) (fun _ _ => rfl))) (blkOk_by (N := ["right", "left", "number", "row", "letter", "other", "one"]) (sc := defScope s_check_products) (by decide +kernel)) (fun _ _ _ _ _ => pg_name (i := 6) sc_check_products.nd rfl (by first | exact Or.inl rfl | exact Or.inr rfl)) (fun _ _ _ _ _ => pts_nil) (fun _ _ _ _ _ => pe_ix ix_tup (pe_ix ix_tup (pv 0) (pv 6) (fun _ _ => rfl)) (pv 4) (fun _ _ => rfl)))) (nomark _)) (pss_one ps_never) pss_nil))))))

end
end K67

set_option Elab.async false
set_option linter.all false
set_option maxRecDepth 100000
set_option maxHeartbeats 4000000
namespace K67
open PySem PySem.Spec PyProof.Rows L2 LX M67
local macro_rules | `(tactic| walk_at "hp") => `(tactic| first | assumption | exact upd_same | (refine up_new (by assumption) ?_; walk_at "hp") | (refine up_ne (by first | assumption | (exact Ne.symm (by assumption))) ?_; walk_at "hp") | (refine up_mut (by assumption) (by intro z; cases z) ?_; walk_at "hp"))
local macro_rules | `(tactic| walk_at "w1") => `(tactic| first
  | (with_reducible refine w_seq ?_) | (with_reducible refine w_asg ?_) | (with_reducible refine w_name ?_) | (with_reducible refine w_ret ?_) | (with_reducible refine w_drop ?_) | (with_reducible refine w_ifS ?_)
  | (with_reducible refine w_var (by with_unfolding_all exact rfl) ?_) | (with_reducible refine w_c ?_) | (with_reducible refine w_op ?_) | (with_reducible refine w_test ?_) | (with_reducible refine w_B ?_)
  | (with_reducible refine w_bl ?_) | (with_reducible refine w_cons ?_) | (with_reducible refine w_nil ?_) | (with_reducible refine w_cb ?_) | (with_reducible refine w_call ?_) | (with_reducible refine w_callS ?_)
  | (with_reducible refine w_addI ?_) | (with_reducible refine w_subI ?_) | (with_reducible refine w_ltI ?_) | (with_reducible refine w_leI ?_) | (with_reducible refine w_gtI ?_) | (with_reducible refine w_geI ?_)
  | (with_reducible refine w_tAnd ?_) | (with_reducible refine w_tOr ?_) | (with_reducible refine w_tNot ?_) | (with_reducible refine w_andV ?_) | (with_reducible refine w_orV ?_) | (with_reducible refine w_notV ?_) | (with_reducible refine w_if ?_)
  | (with_reducible refine w_un ?_) | (with_reducible refine w_neg ?_) | (with_reducible refine w_intI ?_) | (with_reducible refine w_intB ?_) | (with_reducible refine w_abs ?_)
  | (with_reducible refine w_eq (by with_unfolding_all exact rfl) ?_) | (with_reducible refine w_ne (by with_unfolding_all exact rfl) ?_) | (with_reducible refine w_isNone ?_) | (with_reducible refine w_notNone ?_)
  | (with_reducible refine w_tup ?_) | (with_reducible refine w_lst ?_) | (with_reducible refine w_sl ?_) | (with_reducible refine w_noPart ?_) | (with_reducible refine w_part ?_) | (with_reducible refine w_partI ?_)
  | (with_reducible refine w_fld0 ?_) | (with_reducible refine w_rz ?_)
  | (with_reducible refine w_next ?_) | (with_reducible refine w_brk ?_) | (with_reducible refine w_cont ?_) | (with_reducible refine w_retN ?_))
local macro_rules | `(tactic| walk_at "w") => `(tactic| repeat walk_at "w1")
local macro_rules | `(tactic| walk_at "u1") => `(tactic| first | walk_at "w1" | (with_reducible refine w_gsub ?_) | (with_reducible refine w_par ?_) | (with_reducible refine w_par3 ?_) | (with_reducible refine w_pr2 ?_) | (with_reducible refine w_pr3 ?_) | (with_reducible refine w_then ?_) | (with_reducible refine w_for ?_) | (with_reducible refine w_rng1 ?_) | (with_reducible refine w_enumS ?_) | (with_reducible refine w_iList ?_) | (with_reducible refine w_iTup ?_) | (with_reducible refine w_iStr ?_) | (with_reducible refine w_make ?_) | (with_reducible refine w_lc ?_) | (with_reducible refine w_iEnum ?_) | (with_reducible refine w_iEnumT ?_) | (with_reducible refine w_chain ?_) | (with_reducible refine w_bm ?_))
local macro_rules | `(tactic| walk_at "u") => `(tactic| repeat walk_at "u1")
section
variable {P : Program} {w : World} {base : Heap} {G : Gx}
def fl_Monoid (x0 x1 x2 x3 : V) : List (Str × V) := [("right", x0), ("tree", x1), ("lefts", x2), ("memory", x3)]
theorem lk_Monoid_right (x0 x1 x2 x3 : V) : (fl_Monoid x0 x1 x2 x3).lookup ("right" : Str) = some x0 := by
  simp [fl_Monoid, List.lookup]
theorem pf_Monoid_right (x0 : V) : putF "right" x0 ([] : List (Str × V)) = ([("right", x0)] : List (Str × V)) := by
  simp [putF]
theorem lk_Monoid_tree (x0 x1 x2 x3 : V) : (fl_Monoid x0 x1 x2 x3).lookup ("tree" : Str) = some x1 := by
  have e0 : (("tree" : Str) == "right") = false := by decide +kernel
  simp [fl_Monoid, List.lookup, e0]
theorem pf_Monoid_tree (x0 x1 : V) : putF "tree" x1 ([("right", x0)] : List (Str × V)) = ([("right", x0), ("tree", x1)] : List (Str × V)) := by
  have e0 : ¬ ("right" : Str) = "tree" := by decide +kernel
  simp [putF, e0]
theorem lk_Monoid_lefts (x0 x1 x2 x3 : V) : (fl_Monoid x0 x1 x2 x3).lookup ("lefts" : Str) = some x2 := by
  have e0 : (("lefts" : Str) == "right") = false := by decide +kernel
  have e1 : (("lefts" : Str) == "tree") = false := by decide +kernel
  simp [fl_Monoid, List.lookup, e0, e1]
theorem pf_Monoid_lefts (x0 x1 x2 : V) : putF "lefts" x2 ([("right", x0), ("tree", x1)] : List (Str × V)) = ([("right", x0), ("tree", x1), ("lefts", x2)] : List (Str × V)) := by
  have e0 : ¬ ("right" : Str) = "lefts" := by decide +kernel
  have e1 : ¬ ("tree" : Str) = "lefts" := by decide +kernel
  simp [putF, e0, e1]
theorem lk_Monoid_memory (x0 x1 x2 x3 : V) : (fl_Monoid x0 x1 x2 x3).lookup ("memory" : Str) = some x3 := by
  have e0 : (("memory" : Str) == "right") = false := by decide +kernel
  have e1 : (("memory" : Str) == "tree") = false := by decide +kernel
  have e2 : (("memory" : Str) == "lefts") = false := by decide +kernel
  simp [fl_Monoid, List.lookup, e0, e1, e2]
theorem pf_Monoid_memory (x0 x1 x2 x3 : V) : putF "memory" x3 ([("right", x0), ("tree", x1), ("lefts", x2)] : List (Str × V)) = ([("right", x0), ("tree", x1), ("lefts", x2), ("memory", x3)] : List (Str × V)) := by
  have e0 : ¬ ("right" : Str) = "memory" := by decide +kernel
  have e1 : ¬ ("tree" : Str) = "memory" := by decide +kernel
  have e2 : ¬ ("lefts" : Str) = "memory" := by decide +kernel
  simp [putF, e0, e1, e2]
def fl_Automaton (x0 x1 x2 x3 : V) : List (Str × V) := [("rows", x0), ("start", x1), ("accepted", x2), ("memory", x3)]
theorem lk_Automaton_rows (x0 x1 x2 x3 : V) : (fl_Automaton x0 x1 x2 x3).lookup ("rows" : Str) = some x0 := by
  simp [fl_Automaton, List.lookup]
theorem pf_Automaton_rows (x0 : V) : putF "rows" x0 ([] : List (Str × V)) = ([("rows", x0)] : List (Str × V)) := by
  simp [putF]
theorem lk_Automaton_start (x0 x1 x2 x3 : V) : (fl_Automaton x0 x1 x2 x3).lookup ("start" : Str) = some x1 := by
  have e0 : (("start" : Str) == "rows") = false := by decide +kernel
  simp [fl_Automaton, List.lookup, e0]
theorem pf_Automaton_start (x0 x1 : V) : putF "start" x1 ([("rows", x0)] : List (Str × V)) = ([("rows", x0), ("start", x1)] : List (Str × V)) := by
  have e0 : ¬ ("rows" : Str) = "start" := by decide +kernel
  simp [putF, e0]
theorem lk_Automaton_accepted (x0 x1 x2 x3 : V) : (fl_Automaton x0 x1 x2 x3).lookup ("accepted" : Str) = some x2 := by
  have e0 : (("accepted" : Str) == "rows") = false := by decide +kernel
  have e1 : (("accepted" : Str) == "start") = false := by decide +kernel
  simp [fl_Automaton, List.lookup, e0, e1]
theorem pf_Automaton_accepted (x0 x1 x2 : V) : putF "accepted" x2 ([("rows", x0), ("start", x1)] : List (Str × V)) = ([("rows", x0), ("start", x1), ("accepted", x2)] : List (Str × V)) := by
  have e0 : ¬ ("rows" : Str) = "accepted" := by decide +kernel
  have e1 : ¬ ("start" : Str) = "accepted" := by decide +kernel
  simp [putF, e0, e1]
theorem lk_Automaton_memory (x0 x1 x2 x3 : V) : (fl_Automaton x0 x1 x2 x3).lookup ("memory" : Str) = some x3 := by
  have e0 : (("memory" : Str) == "rows") = false := by decide +kernel
  have e1 : (("memory" : Str) == "start") = false := by decide +kernel
  have e2 : (("memory" : Str) == "accepted") = false := by decide +kernel
  simp [fl_Automaton, List.lookup, e0, e1, e2]
theorem pf_Automaton_memory (x0 x1 x2 x3 : V) : putF "memory" x3 ([("rows", x0), ("start", x1), ("accepted", x2)] : List (Str × V)) = ([("rows", x0), ("start", x1), ("accepted", x2), ("memory", x3)] : List (Str × V)) := by
  have e0 : ¬ ("rows" : Str) = "memory" := by decide +kernel
  have e1 : ¬ ("start" : Str) = "memory" := by decide +kernel
  have e2 : ¬ ("accepted" : Str) = "memory" := by decide +kernel
  simp [putF, e0, e1, e2]
theorem ln_Automaton_facts (x0 x1 x2 x3 : V) : (fl_Automaton x0 x1 x2 x3).lookup ("facts" : Str) = none := by
  have e0 : (("facts" : Str) == "rows") = false := by decide +kernel
  have e1 : (("facts" : Str) == "start") = false := by decide +kernel
  have e2 : (("facts" : Str) == "accepted") = false := by decide +kernel
  have e3 : (("facts" : Str) == "memory") = false := by decide +kernel
  simp [fl_Automaton, List.lookup, e0, e1, e2, e3]
def fl_Language (x0 x1 x2 : V) : List (Str × V) := [("monoid", x0), ("accepted", x1), ("memory", x2)]
theorem lk_Language_monoid (x0 x1 x2 : V) : (fl_Language x0 x1 x2).lookup ("monoid" : Str) = some x0 := by
  simp [fl_Language, List.lookup]
theorem pf_Language_monoid (x0 : V) : putF "monoid" x0 ([] : List (Str × V)) = ([("monoid", x0)] : List (Str × V)) := by
  simp [putF]
theorem lk_Language_accepted (x0 x1 x2 : V) : (fl_Language x0 x1 x2).lookup ("accepted" : Str) = some x1 := by
  have e0 : (("accepted" : Str) == "monoid") = false := by decide +kernel
  simp [fl_Language, List.lookup, e0]
theorem pf_Language_accepted (x0 x1 : V) : putF "accepted" x1 ([("monoid", x0)] : List (Str × V)) = ([("monoid", x0), ("accepted", x1)] : List (Str × V)) := by
  have e0 : ¬ ("monoid" : Str) = "accepted" := by decide +kernel
  simp [putF, e0]
theorem lk_Language_memory (x0 x1 x2 : V) : (fl_Language x0 x1 x2).lookup ("memory" : Str) = some x2 := by
  have e0 : (("memory" : Str) == "monoid") = false := by decide +kernel
  have e1 : (("memory" : Str) == "accepted") = false := by decide +kernel
  simp [fl_Language, List.lookup, e0, e1]
theorem pf_Language_memory (x0 x1 x2 : V) : putF "memory" x2 ([("monoid", x0), ("accepted", x1)] : List (Str × V)) = ([("monoid", x0), ("accepted", x1), ("memory", x2)] : List (Str × V)) := by
  have e0 : ¬ ("monoid" : Str) = "memory" := by decide +kernel
  have e1 : ¬ ("accepted" : Str) = "memory" := by decide +kernel
  simp [putF, e0, e1]
theorem app_left {α : Type} {l r : List α} {i : Nat} {d : α} (h : i < l.length) : (l ++ r).getD i d = l.getD i d := by rw [List.getD_eq_getElem?_getD, List.getElem?_append_left h, ← List.getD_eq_getElem?_getD]
theorem app_end {α : Type} {l : List α} {x d : α} {i : Nat} (h : l.length = i) : (l ++ [x]).getD i d = x := by
  subst h
  rw [List.getD_eq_getElem?_getD, List.getElem?_append_right (Nat.le_refl _), Nat.sub_self]
  rfl
theorem nil_settle : ([] : List (Str × V)).lookup ("settle" : Str) = none := rfl
/-! Monoid -/
def MonAt (G : Gx) (H : Hp) (x : Addr) (R : List (List Nat)) : Prop := ∃ dx p t q d : Addr, H x = some (.ins G.c_Monoid dx (fl_Monoid (.ref p) (.ref t) (.ref q) (.ref d))) ∧ Mat .tup .tup H p R ∧ TreeAt H t (treeAll 0 1 R) ∧ Mat .tup .tup H q (lefts R) ∧ H d = some (.dK [])
theorem MonAt.keep {H H' : Hp} {x : Addr} {R : List (List Nat)} (h : MonAt G H x R) (s : Same H H') : MonAt G H' x R := by
  obtain ⟨dx, p, t, q, d, h1, h2, h3, h4, h5⟩ := h
  exact ⟨dx, p, t, q, d, s _ _ h1, h2.same s, h3.keep s, h4.same s, s _ _ h5⟩
/-- only the instance at x, made empty, is changed -/
def sp_Monoid_init (G : Gx) : Sp := fun vs H Q _ => vs.length = 2 ∧ ∃ (x dx p : Addr) (R : List (List Nat)) (k : Nat), vs = [.ref x, .ref p] ∧ H x = some (.ins G.c_Monoid dx []) ∧ Mat .lst .lst H p R ∧ Form R k ∧ IsListed R k ∧
  ∀ H', MonAt G H' x R → But x H H' → Q .non H'
def t_Monoid_init (G : Gx) (W : WX) : TS :=
  tSeq (tDrop (tCall (sp_check_form G) [] E0 (tCons (tVar 1) tNil)))
  (tSeq (tAsg (tThen (tLc (iList G.K (tVar 1)) (gName 3) tYes (tThen (tVar 3) (kTup G.K)) [3]) (kTup G.K)) (gName 2))
  (tSeq (tDrop (tCall (sp_check_order G) [] E0 (tCons (tVar 2) tNil)))
  (tSeq (sFld G.K (tVar 0) (tVar 2) "right")
  (tSeq (sFld G.K (tVar 0) (tCall (sp_tree_of G) [] E0 (tCons (tVar 2) tNil)) "tree")
  (tSeq (sFld G.K (tVar 0) (tCall (sp_left_of G) [] E0 (tCons (tVar 2) (tCons (tFld G.K (tVar 0) "tree") tNil))) "lefts")
  (tSeq (tDrop (tCall (sp_check_products G) [] E0 (tCons (tVar 2) (tCons (tFld G.K (tVar 0) "lefts") tNil))))
  (sFld G.K (tVar 0) tDNewK "memory")))))))
theorem tuples_of {H : Hp} {ps : List Addr} {R : List (List Nat)} {H1 : Hp} {us : List Addr} (hl : us.length = R.length) (h : ∀ i, i < R.length → H1 (us.getD i 0) = some (.tup (IL (R.getD i [])))) {q : Addr} (hq : H1 q = none) :
    Mat .tup .tup (upd H1 q (.tup (us.map V.ref))) q R := ⟨us, upd_same, hl, fun i hi => up_new hq (h i hi)⟩
theorem But.none_ {a p : Addr} {H H' : Hp} (b : But a H H') (ha : H' a ≠ none) (n : H' p = none) : H p = none := by
  cases e : H p with
  | none => rfl
  | some o =>
    by_cases h : p = a
    · subst h; exact absurd n ha
    · rw [b p o e h] at n
      cases n
/-- [tuple(row) for row in rows] of a list of lists -/
theorem lc_rows {σ : L2.St} {H1 : Hp} {Dl p : Addr} {i : Nat} {R : List (List Nat)} {ps : List Addr} {Qd : Hp → Prop} (hp : H1 p = some (.lst (ps.map V.ref))) (hl : ps.length = R.length) (h2 : R.length ≤ 16000000) (hrow : ∀ i, i < R.length → H1 (ps.getD i 0) = some (.lst (IL (R.getD i []))))
    (hD : H1 Dl = none) (hw : ∀ x, wipe ((wipe σ [i]).set i (some x)) [i] = wipe σ [i]) (hi : ∀ x, ((wipe σ [i]).set i (some x))[i]? = some (some x))
    (hd : ∀ H (us : List Addr), Same H1 H → us.length = R.length → H Dl = some (.lst (us.map V.ref)) → (∀ i, i < R.length → H (us.getD i 0) = some (.tup (IL (R.getD i [])))) → Qd H) :
    ∃ W : Nat → Nat → Hp → Prop, (∃ m, W 0 m (upd H1 Dl (.lst []))) ∧ ∀ k m H, W k m H →
      ((Itl G.K p).stop k H ∧ Qd H) ∨ ((Itl G.K p).go k H ∧ ∃ Nx : Hp → Prop, (∀ H', Nx H' → ∃ m', m' < m ∧ W (k + 1) m' H') ∧ ∀ x H', (Itl G.K p).yld k H x H' → gName i x (wipe σ [i]) H' fun σ2 H2 => wipe σ2 [i] = wipe σ [i] ∧ tYes σ2 H2 fun b H3 =>
        if b = true then tThen (tVar i) (kTup G.K) σ2 H3 fun y H4 => ∃ acc, H4 Dl = some (.lst acc) ∧ acc.length < sizeLine ∧ Nx (upd H4 Dl (.lst (acc ++ [y]))) else Nx H3) := by
  refine lc_fixR (fixR_list G.K p (ps.map V.ref)) (fun k H => Same H1 H ∧ ∃ us : List Addr, us.length = k ∧ H Dl = some (.lst (us.map V.ref)) ∧ ∀ i, i < k → H (us.getD i 0) = some (.tup (IL (R.getD i [])))) (fun _ H z => SqL.of (z.1 _ _ hp))
    ⟨fun b o e => up_new hD e, [], rfl, upd_same, fun i hi => absurd hi (Nat.not_lt_zero i)⟩ (fun k H hk z => ⟨hw _, w_yes ?_⟩) (fun H z => ?_)
  · obtain ⟨s, us, hul, hDl, hus⟩ := z
    rw [refs_len] at hk
    rw [refs_getD hk]
    refine ⟨_, hi _, w_kTupL (SqL.of (s _ _ (hrow k (by omega)))) fun q hq => ⟨_, up_new hq hDl, by rw [refs_len, hul, sizeLine_eq]; omega, ?_, us ++ [q], by rw [List.length_append, hul]; rfl, ?_, fun i hi => ?_⟩⟩
    · exact same_mut (same_new s hq) hD
    · rw [upd_same, List.map_append]
      rfl
    · by_cases h : i < k
      · rw [app_left (l := us) (by omega)]
        have h0 := hus i h
        rw [upd_ne (ne_of h0 hDl (fun z => nomatch z))]
        exact up_new hq h0
      · obtain rfl : i = k := by omega
        rw [app_end (l := us) hul, upd_ne (ne_of_none hDl hq).symm, upd_same]
  · obtain ⟨s, us, hul, hDl, hus⟩ := z
    rw [refs_len] at hul hus
    exact hd H us s (by omega) hDl (fun i hi => hus i (by omega))
theorem pure_Monoid_init (T : Txt G) (vs : List V) (H : Hp) (Q : VK) (E : XK) (h : sp_Monoid_init G vs H Q E) : t_Monoid_init G (fun cls d _ H => E cls d H) { nx := fun _ H' => Q .non H', rt := Q } (start ["self", "right", "rows", "row"] vs) H := by
  obtain ⟨_, x, dx, p, R, k, rfl, hx, m, fo, il, kk⟩ := h
  have m0 := m
  obtain ⟨ps, hp, hl, hrow⟩ := m
  have h2000 := fo.2.1
  obtain ⟨α, A, r, l, one, LL⟩ := id il
  unfold t_Monoid_init
  walk_at "u"
  refine ⟨rfl, p, R, k, rfl, m0, fo, fun H1 s1 => ?_⟩
  walk_at "u"
  refine ⟨p, rfl, ⟨_, SqL.of (s1 _ _ hp)⟩, fun Dl hD => ?_⟩
  refine lc_rows (i := 3) (s1 _ _ hp) hl (by omega) (fun i hi => s1 _ _ (hrow i hi)) hD (fun _ => rfl) (fun _ => rfl) fun H2 us s2 hul hDl hus => ?_
  refine w_kTupL (SqL.of hDl) fun q hq => ?_
  walk_at "u"
  have mq : Mat .tup .tup (upd H2 q (.tup (us.map V.ref))) q R := tuples_of (H := H) (ps := ps) hul hus hq
  have s3 : Same H (upd H2 q (.tup (us.map V.ref))) := same_new (s1.trans s2) hq
  generalize upd H2 q (.tup (us.map V.ref)) = H3 at mq s3
  refine ⟨rfl, q, R, rfl, mq, LL.ord, fun H4 s4 => ?_⟩
  walk_at "u"
  have hx4 := s4 _ _ (s3 _ _ hx)
  refine ⟨_, rfl, _, rfl, x, _, dx, [], rfl, hx4, T.cl_Monoid, T.na_Monoid_right, by show 0 < 1000; decide, ?_⟩
  rw [pf_Monoid_right]
  walk_at "u"
  have b5 : But x H (upd H4 x (.ins G.c_Monoid dx [("right", .ref q)])) := (But.of (s3.trans s4)).mutA
  have mq5 : Mat .tup .tup (upd H4 x (.ins G.c_Monoid dx [("right", .ref q)])) q R := by
    obtain ⟨qs, z1, z2, z3⟩ := mq.same s4
    exact ⟨qs, by rw [upd_ne (ne_of z1 hx4 (fun z => nomatch z))]; exact z1, z2, fun i hi => by rw [upd_ne (ne_of (z3 i hi) hx4 (fun z => nomatch z))]; exact z3 i hi⟩
  have hx5 : upd H4 x (.ins G.c_Monoid dx [("right", .ref q)]) x = some (.ins G.c_Monoid dx [("right", .ref q)]) := upd_same
  generalize upd H4 x (.ins G.c_Monoid dx [("right", .ref q)]) = H5 at b5 mq5 hx5
  refine w_sFld ?_
  walk_at "u"
  refine ⟨rfl, q, R, rfl, mq5, by rw [LL.met]; exact h2000, fun t H6 ht t6 s6 => ?_⟩
  walk_at "u"
  have hx6 := s6 _ _ hx5
  refine ⟨x, _, dx, _, rfl, hx6, T.cl_Monoid, T.na_Monoid_tree, by show 1 < 1000; decide, ?_⟩
  rw [pf_Monoid_tree]
  have keepM : ∀ {Ha : Hp} {o : HO} {fs : List (Str × V)} {q : Addr} {R : List (List Nat)}, Mat .tup .tup Ha q R → Ha x = some (.ins G.c_Monoid dx fs) → Mat .tup .tup (upd Ha x o) q R := fun {Ha o fs q R} m hx => by
    obtain ⟨qs, z1, z2, z3⟩ := m
    exact ⟨qs, by rw [upd_ne (ne_of z1 hx (fun z => nomatch z))]; exact z1, z2, fun i hi => by rw [upd_ne (ne_of (z3 i hi) hx (fun z => nomatch z))]; exact z3 i hi⟩
  have keepT : ∀ {Ha : Hp} {o : HO} {fs : List (Str × V)} {t : Addr} {L : List (Nat × Nat)}, TreeAt Ha t L → Ha x = some (.ins G.c_Monoid dx fs) → TreeAt (upd Ha x o) t L := fun {Ha o fs t L} m hx => by
    obtain ⟨qs, z1, z2, z3⟩ := m
    exact ⟨qs, by rw [upd_ne (ne_of z1 hx (fun z => nomatch z))]; exact z1, z2, fun i hi => by rw [upd_ne (ne_of (z3 i hi) hx (fun z => nomatch z))]; exact z3 i hi⟩
  have mq7 := keepM (o := .ins G.c_Monoid dx [("right", .ref q), ("tree", .ref t)]) (mq5.same s6) hx6
  have t7 := keepT (o := .ins G.c_Monoid dx [("right", .ref q), ("tree", .ref t)]) t6 hx6
  have b7 : But x H (upd H6 x (.ins G.c_Monoid dx [("right", .ref q), ("tree", .ref t)])) := (b5.thenSame s6).mutA
  have hx7 : upd H6 x (.ins G.c_Monoid dx [("right", .ref q), ("tree", .ref t)]) x = some (.ins G.c_Monoid dx [("right", .ref q), ("tree", .ref t)]) := upd_same
  generalize upd H6 x (.ins G.c_Monoid dx [("right", .ref q), ("tree", .ref t)]) = H7 at mq7 t7 b7 hx7
  walk_at "u"
  refine w_sFld ?_
  walk_at "u"
  have lt2 : ([("right", .ref q), ("tree", .ref t)] : List (Str × V)).lookup ("tree" : Str) = some (.ref t) := by
    have e0 : (("tree" : Str) == "right") = false := by decide +kernel
    simp [List.lookup, e0]
  refine ⟨x, _, dx, _, _, rfl, hx7, T.cl_Monoid, T.na_Monoid_tree, lt2, ?_⟩
  walk_at "u"
  refine ⟨rfl, q, t, R, k, rfl, mq7, t7, il, h2000, fo.2.2.2.1, fun q2 H8 m8 s8 => ?_⟩
  walk_at "u"
  have hx8 := s8 _ _ hx7
  refine ⟨x, _, dx, _, rfl, hx8, T.cl_Monoid, T.na_Monoid_lefts, by show 2 < 1000; decide, ?_⟩
  rw [pf_Monoid_lefts]
  have mq9 := keepM (o := .ins G.c_Monoid dx [("right", .ref q), ("tree", .ref t), ("lefts", .ref q2)]) (mq7.same s8) hx8
  have t9 := keepT (o := .ins G.c_Monoid dx [("right", .ref q), ("tree", .ref t), ("lefts", .ref q2)]) (t7.keep s8) hx8
  have m9 := keepM (o := .ins G.c_Monoid dx [("right", .ref q), ("tree", .ref t), ("lefts", .ref q2)]) m8 hx8
  have b9 : But x H (upd H8 x (.ins G.c_Monoid dx [("right", .ref q), ("tree", .ref t), ("lefts", .ref q2)])) := (b7.thenSame s8).mutA
  have hx9 : upd H8 x (.ins G.c_Monoid dx [("right", .ref q), ("tree", .ref t), ("lefts", .ref q2)]) x = some (.ins G.c_Monoid dx [("right", .ref q), ("tree", .ref t), ("lefts", .ref q2)]) := upd_same
  generalize upd H8 x (.ins G.c_Monoid dx [("right", .ref q), ("tree", .ref t), ("lefts", .ref q2)]) = H9 at mq9 t9 m9 b9 hx9
  walk_at "u"
  have ll2 : ([("right", .ref q), ("tree", .ref t), ("lefts", .ref q2)] : List (Str × V)).lookup ("lefts" : Str) = some (.ref q2) := by
    have e0 : (("lefts" : Str) == "right") = false := by decide +kernel
    have e1 : (("lefts" : Str) == "tree") = false := by decide +kernel
    simp [List.lookup, e0, e1]
  refine ⟨x, _, dx, _, _, rfl, hx9, T.cl_Monoid, T.na_Monoid_lefts, ll2, ?_⟩
  walk_at "u"
  refine ⟨rfl, q, q2, R, k, rfl, mq9, m9, il, h2000, fo.2.2.2.1, fun Ha sa => ?_⟩
  walk_at "u"
  dsimp only
  with_reducible refine w_sFld ?_
  intro d hd
  walk_at "u"
  have hxa := up_new (o := .ins G.c_Monoid dx _) (u := .dK []) hd (sa _ _ hx9)
  refine ⟨x, _, dx, _, rfl, hxa, T.cl_Monoid, T.na_Monoid_memory, by show 3 < 1000; decide, ?_⟩
  rw [pf_Monoid_memory]
  have sb : Same H9 (upd Ha d (.dK [])) := same_new sa hd
  refine kk _ ⟨dx, q, t, q2, d, upd_same, keepM (mq9.same sb) hxa, keepT (t9.keep sb) hxa, keepM (m9.same sb) hxa, ?_⟩ (b9.thenSame sb).mutA
  rw [upd_ne (ne_of (o := .dK []) upd_same hxa (fun z => nomatch z))]
  exact upd_same
theorem ok_Monoid_init (T : Txt G) : FnOk P w G.K G.mg base (L2.CX P w) 4 G.f_Monoid_init G.d_Monoid_init ["self", "right"] (sp_Monoid_init G) := by
  refine T.F_Monoid_init.okX sc_Monoid_init (fun _ _ _ _ h => h.1) (fun cdv A outer s H vs Q E hr h => ⟨t_Monoid_init G (fun cls d _ H => E cls d H), ?_, pure_Monoid_init T vs H Q E h⟩)
  have tk : Takes (cxOf (L2.CX P w) P w G.K G.mg base ["self", "right", "rows", "row"] "Monoid.__init__" (defScope s_Monoid_init) G.f_Monoid_init cdv A outer s H E) (fun cls d _ H => E cls d H) := takes_of rfl rfl rfl rfl
  exact (pss_cons (ps_expr (pe_call (ok_check_form T) (hr.mono (by decide)) rfl T.g_check_form T.F_check_form.kp T.b_check_form .nil passL (pa_cons (pv 1) pa_nil)))
    (pss_cons (ps_set (i := 2) sc_Monoid_init.nd rfl (by first | exact Or.inl rfl | exact Or.inr rfl) (pe_tupleOf rfl T.n_tuple (pe_lc (own := [("row", 3)]) (g := (gName 3)) (tt := tYes) rfl sc_Monoid_init.nd (pi_list (pv 1)) (blkOk_by (N := ["self", "right", "rows", "row"]) (sc := defScope s_Monoid_init) (by decide +kernel)) (fun _ _ _ _ _ => pg_name (i := 3) sc_Monoid_init.nd rfl (by first | exact Or.inl rfl | exact Or.inr rfl)) (fun _ _ _ _ _ => pts_nil) (fun _ _ _ _ _ => pe_tupleOf rfl T.n_tuple (pv 3)))))
    (pss_cons (ps_expr (pe_call (ok_check_order T) (hr.mono (by decide)) rfl T.g_check_order T.F_check_order.kp T.b_check_order .nil passL (pa_cons (pv 2) pa_nil)))
    (pss_cons (ps_fld (pv 0) (pv 2) rfl)
    (pss_cons (ps_fld (pv 0) (pe_call (ok_tree_of T) (hr.mono (by decide)) rfl T.g_tree_of T.F_tree_of.kp T.b_tree_of .nil passL (pa_cons (pv 2) pa_nil)) rfl)
    (pss_cons (ps_fld (pv 0) (pe_call (ok_left_of T) (hr.mono (by decide)) rfl T.g_left_of T.F_left_of.kp T.b_left_of .nil passL (pa_cons (pv 2) (pa_cons (pe_fld (pv 0) rfl) pa_nil))) rfl)
    (pss_cons (ps_expr (pe_call (ok_check_products T) (hr.mono (by decide)) rfl T.g_check_products T.F_check_products.kp T.b_check_products .nil passL (pa_cons (pv 2) (pa_cons (pe_fld (pv 0) rfl) pa_nil))))
    (pss_one (ps_fld (pv 0) pe_dnewK rfl)))))))))

end
end K67

set_option Elab.async false
set_option linter.all false
set_option maxRecDepth 100000
set_option maxHeartbeats 4000000
namespace K67
open PySem PySem.Spec PyProof.Rows L2 LX M67
local macro_rules | `(tactic| walk_at "hp") => `(tactic| first | assumption | exact upd_same | (refine up_new (by assumption) ?_; walk_at "hp") | (refine up_ne (by first | assumption | (exact Ne.symm (by assumption))) ?_; walk_at "hp") | (refine up_mut (by assumption) (by intro z; cases z) ?_; walk_at "hp"))
local macro_rules | `(tactic| walk_at "w1") => `(tactic| first
  | (with_reducible refine w_seq ?_) | (with_reducible refine w_asg ?_) | (with_reducible refine w_name ?_) | (with_reducible refine w_ret ?_) | (with_reducible refine w_drop ?_) | (with_reducible refine w_ifS ?_)
  | (with_reducible refine w_var (by with_unfolding_all exact rfl) ?_) | (with_reducible refine w_c ?_) | (with_reducible refine w_op ?_) | (with_reducible refine w_test ?_) | (with_reducible refine w_B ?_)
  | (with_reducible refine w_bl ?_) | (with_reducible refine w_cons ?_) | (with_reducible refine w_nil ?_) | (with_reducible refine w_cb ?_) | (with_reducible refine w_call ?_) | (with_reducible refine w_callS ?_)
  | (with_reducible refine w_addI ?_) | (with_reducible refine w_subI ?_) | (with_reducible refine w_ltI ?_) | (with_reducible refine w_leI ?_) | (with_reducible refine w_gtI ?_) | (with_reducible refine w_geI ?_)
  | (with_reducible refine w_tAnd ?_) | (with_reducible refine w_tOr ?_) | (with_reducible refine w_tNot ?_) | (with_reducible refine w_andV ?_) | (with_reducible refine w_orV ?_) | (with_reducible refine w_notV ?_) | (with_reducible refine w_if ?_)
  | (with_reducible refine w_un ?_) | (with_reducible refine w_neg ?_) | (with_reducible refine w_intI ?_) | (with_reducible refine w_intB ?_) | (with_reducible refine w_abs ?_)
  | (with_reducible refine w_eq (by with_unfolding_all exact rfl) ?_) | (with_reducible refine w_ne (by with_unfolding_all exact rfl) ?_) | (with_reducible refine w_isNone ?_) | (with_reducible refine w_notNone ?_)
  | (with_reducible refine w_tup ?_) | (with_reducible refine w_lst ?_) | (with_reducible refine w_sl ?_) | (with_reducible refine w_noPart ?_) | (with_reducible refine w_part ?_) | (with_reducible refine w_partI ?_)
  | (with_reducible refine w_fld0 ?_) | (with_reducible refine w_rz ?_)
  | (with_reducible refine w_next ?_) | (with_reducible refine w_brk ?_) | (with_reducible refine w_cont ?_) | (with_reducible refine w_retN ?_))
local macro_rules | `(tactic| walk_at "w") => `(tactic| repeat walk_at "w1")
local macro_rules | `(tactic| walk_at "u1") => `(tactic| first | walk_at "w1" | (with_reducible refine w_gsub ?_) | (with_reducible refine w_par ?_) | (with_reducible refine w_par3 ?_) | (with_reducible refine w_pr2 ?_) | (with_reducible refine w_pr3 ?_) | (with_reducible refine w_then ?_) | (with_reducible refine w_for ?_) | (with_reducible refine w_rng1 ?_) | (with_reducible refine w_enumS ?_) | (with_reducible refine w_iList ?_) | (with_reducible refine w_iTup ?_) | (with_reducible refine w_iStr ?_) | (with_reducible refine w_make ?_) | (with_reducible refine w_lc ?_) | (with_reducible refine w_iEnum ?_) | (with_reducible refine w_iEnumT ?_) | (with_reducible refine w_chain ?_) | (with_reducible refine w_bm ?_))
local macro_rules | `(tactic| walk_at "u") => `(tactic| repeat walk_at "u1")
section
variable {P : Program} {w : World} {base : Heap} {G : Gx}
/-! Automaton -/
def AutAt (G : Gx) (H : Hp) (x : Addr) (R : List (List Nat)) (s : Nat) (out : List Int) : Prop := ∃ dx p q d : Addr, H x = some (.ins G.c_Automaton dx (fl_Automaton (.ref p) (.int s) (.ref q) (.ref d))) ∧ Mat .tup .tup H p R ∧ H q = some (.tup (out.map V.int))
theorem AutAt.keep {H H' : Hp} {x : Addr} {R : List (List Nat)} {s : Nat} {out : List Int} (h : AutAt G H x R s out) (t : Same H H') : AutAt G H' x R s out := by
  obtain ⟨dx, p, q, d, h1, h2, h3⟩ := h
  exact ⟨dx, p, q, d, t _ _ h1, h2.same t, t _ _ h3⟩
/-- sorted, each once -/
def Sorted (out : List Int) (ms : List Nat) : Prop := out.Pairwise (· < ·) ∧ ∀ k : Int, k ∈ out ↔ ∃ m ∈ ms, k = (m : Nat)
theorem mat_upd {H : Hp} {x C dx : Addr} {fs : List (Str × V)} {o : HO} {q : Addr} {R : List (List Nat)} (m : Mat .tup .tup H q R) (hx : H x = some (.ins C dx fs)) : Mat .tup .tup (upd H x o) q R := by
  obtain ⟨qs, z1, z2, z3⟩ := m
  exact ⟨qs, by rw [upd_ne (ne_of z1 hx (fun z => nomatch z))]; exact z1, z2, fun i hi => by rw [upd_ne (ne_of (z3 i hi) hx (fun z => nomatch z))]; exact z3 i hi⟩
theorem ILi (ms : List Nat) : IL ms = (ms.map fun m => ((m : Nat) : Int)).map V.int := IL_ints ms
def sp_Automaton_settle (G : Gx) : Sp := fun vs H Q _ => vs.length = 4 ∧ ∃ (x dx p a : Addr) (R : List (List Nat)) (s : Nat) (ms : List Nat), vs = [.ref x, .ref p, .int s, .ref a] ∧ H x = some (.ins G.c_Automaton dx []) ∧ Mat .lst .lst H p R ∧ R.length ≤ 2000 ∧ H a = some (.lst (IL ms)) ∧ ms.length ≤ 4000 ∧
  ∀ out H', AutAt G H' x R s out → Sorted out ms → But x H H' → Q (.ref x) H'
def t_Automaton_settle (G : Gx) (w : World) (W : WX) : TS :=
  tSeq (sFld G.K (tVar 0) (tThen (tLc (iList G.K (tVar 1)) (gName 4) tYes (tThen (tVar 4) (kTup G.K)) [4]) (kTup G.K)) "rows")
  (tSeq (sFld G.K (tVar 0) (tVar 2) "start")
  (tSeq (sFld G.K (tVar 0) (tThen (tCB (rSortedSetN w) (tCons (tCB (rSetOfL G.K w) (tCons (tVar 3) tNil)) tNil)) (kTup G.K)) "accepted")
  (tSeq (sFld G.K (tVar 0) tDNewK "memory")
  (tRet (tVar 0)))))
theorem mem_cast {ms : List Nat} {k : Int} : k ∈ (ms.map fun m => ((m : Nat) : Int)) ↔ ∃ m ∈ ms, k = (m : Nat) := by
  rw [List.mem_map]
  exact ⟨fun ⟨m, h, e⟩ => ⟨m, h, e.symm⟩, fun ⟨m, h, e⟩ => ⟨m, h, e.symm⟩⟩
theorem pure_Automaton_settle (T : Txt G) (w : World) (vs : List V) (H : Hp) (Q : VK) (E : XK) (h : sp_Automaton_settle G vs H Q E) : t_Automaton_settle G w (fun cls d _ H => E cls d H) { nx := fun _ H' => Q .non H', rt := Q } (start ["self", "rows", "start", "accepted", "row"] vs) H := by
  obtain ⟨_, x, dx, p, a, R, s, ms, rfl, hx, m, h2000, ha, hms, kk⟩ := h
  obtain ⟨ps, hp, hl, hrow⟩ := m
  unfold t_Automaton_settle
  with_reducible refine w_seq ?_
  with_reducible refine w_sFld ?_
  walk_at "u"
  refine ⟨p, rfl, ⟨_, SqL.of hp⟩, fun Dl hD => ?_⟩
  refine lc_rows (i := 4) hp hl (by omega) hrow hD (fun _ => rfl) (fun _ => rfl) fun H2 us s2 hul hDl hus => ?_
  refine w_kTupL (SqL.of hDl) fun q hq => ?_
  have mq : Mat .tup .tup (upd H2 q (.tup (us.map V.ref))) q R := tuples_of (H := H) (ps := ps) hul hus hq
  have s3 : Same H (upd H2 q (.tup (us.map V.ref))) := same_new s2 hq
  generalize upd H2 q (.tup (us.map V.ref)) = H3 at mq s3
  walk_at "u"
  have hx3 := s3 _ _ hx
  refine ⟨x, _, dx, _, rfl, hx3, T.cl_Automaton, T.na_Automaton_rows, by show 0 < 1000; decide, ?_⟩
  rw [pf_Automaton_rows]
  have mq4 := mat_upd (o := .ins G.c_Automaton dx [("rows", .ref q)]) mq hx3
  have b4 : But x H (upd H3 x (.ins G.c_Automaton dx [("rows", .ref q)])) := (But.of s3).mutA
  have hx4 : upd H3 x (.ins G.c_Automaton dx [("rows", .ref q)]) x = some (.ins G.c_Automaton dx [("rows", .ref q)]) := upd_same
  generalize upd H3 x (.ins G.c_Automaton dx [("rows", .ref q)]) = H4 at mq4 b4 hx4
  dsimp only
  with_reducible refine w_seq ?_
  with_reducible refine w_sFld ?_
  walk_at "u"
  refine ⟨x, _, dx, _, rfl, hx4, T.cl_Automaton, T.na_Automaton_start, by show 1 < 1000; decide, ?_⟩
  rw [pf_Automaton_start]
  have mq5 := mat_upd (o := .ins G.c_Automaton dx [("rows", .ref q), ("start", .int s)]) mq4 hx4
  have b5 : But x H (upd H4 x (.ins G.c_Automaton dx [("rows", .ref q), ("start", .int s)])) := b4.mutA
  have hx5 : upd H4 x (.ins G.c_Automaton dx [("rows", .ref q), ("start", .int s)]) x = some (.ins G.c_Automaton dx [("rows", .ref q), ("start", .int s)]) := upd_same
  generalize upd H4 x (.ins G.c_Automaton dx [("rows", .ref q), ("start", .int s)]) = H5 at mq5 b5 hx5
  dsimp only
  with_reducible refine w_seq ?_
  with_reducible refine w_sFld ?_
  walk_at "u"
  have ha5 : H5 a = some (.lst (IL ms)) := b5 _ _ ha (ne_of ha hx (fun z => nomatch z))
  refine ⟨a, ms.map fun m => ((m : Nat) : Int), rfl, SqL.of (by rw [ha5, ILi]), by rw [List.length_map]; exact hms, fun sa c hsa hc => ?_⟩
  refine ⟨sa, _, c, rfl, upd_same, fun out o up mem len ho => ?_⟩
  refine w_kTupL (SqL.of upd_same) fun r hr => ?_
  have so : Sorted out ms := ⟨up, fun k => by rw [mem k, decide_eq_true_eq]; exact mem_cast⟩
  have s6 : Same H5 (upd (upd (upd H5 sa (SetO w sa (fun j => decide (j ∈ ms.map fun m => ((m : Nat) : Int))) c)) o (.lst (out.map V.int))) r (.tup (out.map V.int))) := same_new (same_new (same_new (Same.refl H5) hsa) ho) hr
  have hr6 : upd (upd (upd H5 sa (SetO w sa (fun j => decide (j ∈ ms.map fun m => ((m : Nat) : Int))) c)) o (.lst (out.map V.int))) r (.tup (out.map V.int)) r = some (.tup (out.map V.int)) := upd_same
  generalize upd (upd (upd H5 sa (SetO w sa (fun j => decide (j ∈ ms.map fun m => ((m : Nat) : Int))) c)) o (.lst (out.map V.int))) r (.tup (out.map V.int)) = H6 at s6 hr6
  walk_at "u"
  have hx6 := s6 _ _ hx5
  refine ⟨x, _, dx, _, rfl, hx6, T.cl_Automaton, T.na_Automaton_accepted, by show 2 < 1000; decide, ?_⟩
  rw [pf_Automaton_accepted]
  have mq7 := mat_upd (o := .ins G.c_Automaton dx [("rows", .ref q), ("start", .int s), ("accepted", .ref r)]) (mq5.same s6) hx6
  have b7 : But x H (upd H6 x (.ins G.c_Automaton dx [("rows", .ref q), ("start", .int s), ("accepted", .ref r)])) := (b5.thenSame s6).mutA
  have hr7 : upd H6 x (.ins G.c_Automaton dx [("rows", .ref q), ("start", .int s), ("accepted", .ref r)]) r = some (.tup (out.map V.int)) := by rw [upd_ne (ne_of hr6 hx6 (fun z => nomatch z))]; exact hr6
  have hx7 : upd H6 x (.ins G.c_Automaton dx [("rows", .ref q), ("start", .int s), ("accepted", .ref r)]) x = some (.ins G.c_Automaton dx [("rows", .ref q), ("start", .int s), ("accepted", .ref r)]) := upd_same
  generalize upd H6 x (.ins G.c_Automaton dx [("rows", .ref q), ("start", .int s), ("accepted", .ref r)]) = H7 at mq7 b7 hr7 hx7
  dsimp only
  with_reducible refine w_seq ?_
  with_reducible refine w_sFld ?_
  intro d hd
  walk_at "u"
  have hx8 : upd H7 d (.dK []) x = some (.ins G.c_Automaton dx [("rows", .ref q), ("start", .int s), ("accepted", .ref r)]) := up_new hd hx7
  refine ⟨x, _, dx, _, rfl, hx8, T.cl_Automaton, T.na_Automaton_memory, by show 3 < 1000; decide, ?_⟩
  rw [pf_Automaton_memory]
  have s8 : Same H7 (upd H7 d (.dK [])) := same_new (Same.refl H7) hd
  walk_at "u"
  refine kk out _ ⟨dx, q, r, d, upd_same, mat_upd (mq7.same s8) hx8, ?_⟩ so (b7.thenSame s8).mutA
  rw [upd_ne (ne_of (s8 _ _ hr7) hx8 (fun z => nomatch z))]
  exact s8 _ _ hr7
theorem ok_Automaton_settle (T : Txt G) : FnOk P w G.K G.mg base (L2.CX P w) 1 G.f_Automaton_settle G.d_Automaton_settle ["self", "rows", "start", "accepted"] (sp_Automaton_settle G) := by
  refine T.F_Automaton_settle.okX sc_Automaton_settle (fun _ _ _ _ h => h.1) (fun cdv A outer s H vs Q E hr h => ⟨t_Automaton_settle G w (fun cls d _ H => E cls d H), ?_, pure_Automaton_settle T w vs H Q E h⟩)
  exact (pss_cons (ps_fld (pv 0) (pe_tupleOf rfl T.n_tuple (pe_lc (own := [("row", 4)]) (g := (gName 4)) (tt := tYes) rfl sc_Automaton_settle.nd (pi_list (pv 1)) (blkOk_by (N := ["self", "rows", "start", "accepted", "row"]) (sc := defScope s_Automaton_settle) (by decide +kernel)) (fun _ _ _ _ _ => pg_name (i := 4) sc_Automaton_settle.nd rfl (by first | exact Or.inl rfl | exact Or.inr rfl)) (fun _ _ _ _ _ => pts_nil) (fun _ _ _ _ _ => pe_tupleOf rfl T.n_tuple (pv 4)))) rfl)
    (pss_cons (ps_fld (pv 0) (pv 2) rfl)
    (pss_cons (ps_fld (pv 0) (pe_tupleOf rfl T.n_tuple (pe_callB (cr_sortedSetN rfl) (by rfl) T.n_sorted (by decide +kernel) (pa_cons (pe_callTy (cr_setOfL rfl) (by rfl) T.n_set (by decide +kernel) (pa_cons (pv 3) pa_nil)) pa_nil))) rfl)
    (pss_cons (ps_fld (pv 0) pe_dnewK rfl)
    (pss_one (ps_ret (pv 0)))))))

end
end K67

set_option Elab.async false
set_option linter.all false
set_option maxRecDepth 100000
set_option maxHeartbeats 4000000
namespace K67
open PySem PySem.Spec PyProof.Rows L2 LX M67
local macro_rules | `(tactic| walk_at "hp") => `(tactic| first | assumption | exact upd_same | (refine up_new (by assumption) ?_; walk_at "hp") | (refine up_ne (by first | assumption | (exact Ne.symm (by assumption))) ?_; walk_at "hp") | (refine up_mut (by assumption) (by intro z; cases z) ?_; walk_at "hp"))
local macro_rules | `(tactic| walk_at "w1") => `(tactic| first
  | (with_reducible refine w_seq ?_) | (with_reducible refine w_asg ?_) | (with_reducible refine w_name ?_) | (with_reducible refine w_ret ?_) | (with_reducible refine w_drop ?_) | (with_reducible refine w_ifS ?_)
  | (with_reducible refine w_var (by with_unfolding_all exact rfl) ?_) | (with_reducible refine w_c ?_) | (with_reducible refine w_op ?_) | (with_reducible refine w_test ?_) | (with_reducible refine w_B ?_)
  | (with_reducible refine w_bl ?_) | (with_reducible refine w_cons ?_) | (with_reducible refine w_nil ?_) | (with_reducible refine w_cb ?_) | (with_reducible refine w_call ?_) | (with_reducible refine w_callS ?_)
  | (with_reducible refine w_addI ?_) | (with_reducible refine w_subI ?_) | (with_reducible refine w_ltI ?_) | (with_reducible refine w_leI ?_) | (with_reducible refine w_gtI ?_) | (with_reducible refine w_geI ?_)
  | (with_reducible refine w_tAnd ?_) | (with_reducible refine w_tOr ?_) | (with_reducible refine w_tNot ?_) | (with_reducible refine w_andV ?_) | (with_reducible refine w_orV ?_) | (with_reducible refine w_notV ?_) | (with_reducible refine w_if ?_)
  | (with_reducible refine w_un ?_) | (with_reducible refine w_neg ?_) | (with_reducible refine w_intI ?_) | (with_reducible refine w_intB ?_) | (with_reducible refine w_abs ?_)
  | (with_reducible refine w_eq (by with_unfolding_all exact rfl) ?_) | (with_reducible refine w_ne (by with_unfolding_all exact rfl) ?_) | (with_reducible refine w_isNone ?_) | (with_reducible refine w_notNone ?_)
  | (with_reducible refine w_tup ?_) | (with_reducible refine w_lst ?_) | (with_reducible refine w_sl ?_) | (with_reducible refine w_noPart ?_) | (with_reducible refine w_part ?_) | (with_reducible refine w_partI ?_)
  | (with_reducible refine w_fld0 ?_) | (with_reducible refine w_rz ?_)
  | (with_reducible refine w_next ?_) | (with_reducible refine w_brk ?_) | (with_reducible refine w_cont ?_) | (with_reducible refine w_retN ?_))
local macro_rules | `(tactic| walk_at "w") => `(tactic| repeat walk_at "w1")
local macro_rules | `(tactic| walk_at "u1") => `(tactic| first | walk_at "w1" | (with_reducible refine w_gsub ?_) | (with_reducible refine w_par ?_) | (with_reducible refine w_par3 ?_) | (with_reducible refine w_pr2 ?_) | (with_reducible refine w_pr3 ?_) | (with_reducible refine w_then ?_) | (with_reducible refine w_for ?_) | (with_reducible refine w_rng1 ?_) | (with_reducible refine w_enumS ?_) | (with_reducible refine w_iList ?_) | (with_reducible refine w_iTup ?_) | (with_reducible refine w_iStr ?_) | (with_reducible refine w_make ?_) | (with_reducible refine w_lc ?_) | (with_reducible refine w_iEnum ?_) | (with_reducible refine w_iEnumT ?_) | (with_reducible refine w_chain ?_) | (with_reducible refine w_bm ?_))
local macro_rules | `(tactic| walk_at "u") => `(tactic| repeat walk_at "u1")
section
variable {P : Program} {w : World} {base : Heap} {G : Gx}
/-! rows of an automaton -/
def RowsF (R : List (List Nat)) (k : Nat) : Prop := 1 ≤ R.length ∧ R.length ≤ 40 ∧ 1 ≤ k ∧ k ≤ 4 ∧ ∀ i, i < R.length → (R.getD i []).length = k ∧ ∀ x ∈ R.getD i [], x < R.length
def sp_check_rows (G : Gx) : Sp := fun vs H Q _ => vs.length = 1 ∧ ∃ (p : Addr) (R : List (List Nat)) (k : Nat), vs = [.ref p] ∧ Mat .lst .lst H p R ∧ RowsF R k ∧ ∀ H', Same H H' → Q .non H'
def t_check_rows (G : Gx) (W : WX) : TS :=
  tSeq (tIfS (tOr (tNot (tB (tCall (sp_is_sequence G) [] E0 (tCons (tVar 0) tNil)))) (tNot (tTest (tChain rLeI rLeI (tC (.int 1)) (tCB (LX.rLen G.K) (tCons (tVar 0) tNil)) (tC (.int 40)))))) tNever tNext)
  (tFor (iList G.K (tVar 0)) (gName 1) (tSeq (tIfS (tOr (tNot (tB (tCall (sp_is_sequence G) [] E0 (tCons (tVar 1) tNil)))) (tOr (tNot (tTest (tChain rLeI rLeI (tC (.int 1)) (tCB (LX.rLen G.K) (tCons (tVar 1) tNil)) (tCB (LX.rLen G.K) (tCons (tC (.str "abcd")) tNil))))) (tTest (tOp rNe (tCB (LX.rLen G.K) (tCons (tVar 1) tNil)) (tCB (LX.rLen G.K) (tCons (tOp (rIxL G.K) (tVar 0) (tC (.int 0))) tNil)))))) tNever tNext)
  (tIfS (tNot (tB (tCB (rAll G.K) (tCons (tLc (iList G.K (tVar 1)) (gName 2) tYes (tCall (sp_is_below G) [] E0 (tCons (tVar 2) (tCons (tCB (LX.rLen G.K) (tCons (tVar 0) tNil)) tNil))) [2]) tNil)))) tNever tNext)))
theorem e_signs : (("abcd" : Str).length) = 4 := by decide +kernel
theorem pure_check_rows (T : Txt G) (vs : List V) (H : Hp) (Q : VK) (E : XK) (h : sp_check_rows G vs H Q E) : t_check_rows G (fun cls d _ H => E cls d H) { nx := fun _ H' => Q .non H', rt := Q } (start ["rows", "row", "state"] vs) H := by
  obtain ⟨_, p, R, k, rfl, m, ⟨h1, h2, k1, k2, hr⟩, kk⟩ := h
  obtain ⟨ps, hp, hl, hrow⟩ := m
  have hlen : ((ps.map V.ref).length : Int) = (R.length : Nat) := by rw [refs_len, hl]
  unfold t_check_rows
  walk_at "u"
  refine ⟨rfl, p, _, rfl, .inl hp, fun H1 s1 => ⟨_, rfl, ?_⟩⟩
  refine iteF ?_
  walk_at "u"
  refine w_lenL (SqL.of (s1 _ _ hp)) ?_
  rw [hlen]
  walk_at "u"
  refine w_ite (fun _ => ?_) fun z => absurd (by omega) z
  walk_at "u"
  have e1 : decide (((R.length : Nat) : Int) ≤ 40) = true := decide_eq_true (by omega)
  rw [e1]
  refine iteF ?_
  walk_at "u"
  refine ⟨p, rfl, ⟨_, SqL.of (s1 _ _ hp)⟩, ?_⟩
  refine for_fixR (fixR_list G.K p (ps.map V.ref)) (fun _ σ H' => (∃ a b : Option V, σ = [some (.ref p), a, b]) ∧ Same H H') (fun _ _ _ z => SqL.of (z.2 _ _ hp)) ⟨⟨_, _, rfl⟩, s1⟩ (fun i σ Hb hi z => ?_) (fun σ Ha z => kk _ z.2)
  obtain ⟨⟨a, b, rfl⟩, sT⟩ := z
  rw [refs_len] at hi
  have hiR : i < R.length := by omega
  obtain ⟨lr, lx⟩ := hr i hiR
  have haT : Hb (ps.getD i 0) = some (.lst (IL (R.getD i []))) := sT _ _ (hrow i hiR)
  rw [refs_getD hi]
  walk_at "u"
  refine ⟨rfl, _, _, rfl, .inl haT, fun Hc sc => ⟨_, rfl, ?_⟩⟩
  have hac := sc _ _ haT
  refine iteF ?_
  walk_at "u"
  refine w_lenL (SqL.of hac) ?_
  rw [IL_len, lr]
  walk_at "u"
  refine w_ite (fun _ => ?_) fun z => absurd (by omega) z
  walk_at "u"
  refine w_lenS (by decide +kernel) ?_
  walk_at "u"
  have e2 : decide (((k : Nat) : Int) ≤ (("abcd" : Str).length : Nat)) = true := decide_eq_true (by rw [e_signs]; omega)
  rw [e2]
  refine iteF ?_
  walk_at "u"
  refine w_lenL (SqL.of hac) ?_
  walk_at "u"
  have hpc := sc _ _ (sT _ _ hp)
  have h0c := sc _ _ (sT _ _ (hrow 0 (by omega)))
  refine w_ixL (SqL.of hpc) (by exact refs_at (i := 0) (by omega)) ?_
  walk_at "u"
  refine w_lenL (SqL.of h0c) ?_
  walk_at "u"
  rw [IL_len, IL_len, lr, (hr 0 (by omega)).1]
  refine w_iteN (fun z => absurd rfl z) fun _ => ?_
  walk_at "u"
  refine ⟨_, rfl, ⟨_, SqL.of hac⟩, fun Dl hD => ?_⟩
  refine lc_mapR (i := 2) (fixR_list G.K (ps.getD i 0) (IL (R.getD i []))) (fun _ => .bl true) (by rw [IL_len, lr]; omega) hD (fun Hx sx => SqL.of (sx _ _ hac)) (fun x => rfl) (fun j Hx Qx hj sx qx => ?_) fun Hx sx ex => ?_
  · rw [IL_len] at hj
    rw [IL_getD hj]
    walk_at "u"
    refine w_lenL (SqL.of (sx _ _ hpc)) ?_
    rw [hlen]
    exact ⟨rfl, _, _, rfl, lx _ (getD_mem hj), qx _ (Same.refl _)⟩
  · walk_at "u"
    rw [(all_true _).1] at ex
    refine w_all (SqL.of ex) ?_
    rw [(all_true _).2]
    walk_at "u"
    refine iteF ?_
    walk_at "u"
    exact ⟨⟨_, _, rfl⟩, (sT.trans sc).trans sx⟩
theorem ok_check_rows (T : Txt G) : FnOk P w G.K G.mg base (L2.CX P w) 3 G.f_check_rows G.d_check_rows ["rows"] (sp_check_rows G) := by
  refine T.F_check_rows.okX sc_check_rows (fun _ _ _ _ h => h.1) (fun cdv A outer s H vs Q E hr h => ⟨t_check_rows G (fun cls d _ H => E cls d H), ?_, pure_check_rows T vs H Q E h⟩)
  have tk : Takes (cxOf (L2.CX P w) P w G.K G.mg base ["rows", "row", "state"] "check_rows" (defScope s_check_rows) G.f_check_rows cdv A outer s H E) (fun cls d _ H => E cls d H) := takes_of rfl rfl rfl rfl
  exact (pss_cons (ps_if (PW.pt (pw_or (pt_not (pt_val (pe_call (ok_is_sequence T) (hr.mono (by decide)) rfl T.g_is_sequence T.F_is_sequence.kp T.b_is_sequence .nil passL (pa_cons (pv 0) pa_nil)))) (pw_or1 (pt_not (pt_chain o_leI o_leI pe_int (pe_callB c_len (by rfl) T.n_len PySem.boot_len (pa_cons (pv 0) pa_nil)) (pe_g T.k_MOST_STATES)))))) (pss_one ps_never) pss_nil)
    (pss_one (ps_for (passes_of rfl) rfl (pi_list (pv 0)) (pg_name (i := 1) sc_check_rows.nd rfl (by first | exact Or.inl rfl | exact Or.inr rfl)) (pss_cons (ps_if (PW.pt (pw_or (pt_not (pt_val (pe_call (ok_is_sequence T) (hr.mono (by decide)) rfl T.g_is_sequence T.F_is_sequence.kp T.b_is_sequence .nil passL (pa_cons (pv 1) pa_nil)))) (pw_or (pt_not (pt_chain o_leI o_leI pe_int (pe_callB c_len (by rfl) T.n_len PySem.boot_len (pa_cons (pv 1) pa_nil)) (pe_callB c_len (by rfl) T.n_len PySem.boot_len (pa_cons (pe_g T.k_SIGNS) pa_nil)))) (pw_or1 (pt_cmpR op_ne (pe_callB c_len (by rfl) T.n_len PySem.boot_len (pa_cons (pv 1) pa_nil)) (pe_callB c_len (by rfl) T.n_len PySem.boot_len (pa_cons (pe_ix ix_list (pv 0) pe_int (fun _ _ => rfl)) pa_nil)) (nomark _)))))) (pss_one ps_never) pss_nil)
    (pss_one (ps_if (pt_not (pt_val (pe_callB (cr_all rfl) (by rfl) T.n_all (by decide +kernel) (pa_cons (pe_lc (own := [("state", 2)]) (g := (gName 2)) (tt := tYes) rfl sc_check_rows.nd (pi_list (pv 1)) (blkOk_by (N := ["rows", "row", "state"]) (sc := defScope s_check_rows) (by decide +kernel)) (fun _ _ _ _ _ => pg_name (i := 2) sc_check_rows.nd rfl (by first | exact Or.inl rfl | exact Or.inr rfl)) (fun _ _ _ _ _ => pts_nil) (fun _ _ _ _ _ => pe_call (ok_is_below T) (hr.mono (by decide)) rfl T.g_is_below T.F_is_below.kp T.b_is_below .nil passL (pa_cons (pv 2) (pa_cons (pe_callB c_len (by rfl) T.n_len PySem.boot_len (pa_cons (pv 0) pa_nil)) pa_nil)))) pa_nil)))) (pss_one ps_never) pss_nil))))))

def sp_Automaton_init (G : Gx) : Sp := fun vs H Q _ => vs.length = 4 ∧ ∃ (x dx p a : Addr) (R : List (List Nat)) (k s : Nat) (ms : List Nat), vs = [.ref x, .ref p, .int s, .ref a] ∧ H x = some (.ins G.c_Automaton dx []) ∧ Mat .lst .lst H p R ∧ RowsF R k ∧ s < R.length ∧
  H a = some (.lst (IL ms)) ∧ ms.length ≤ 4000 ∧ (∀ m ∈ ms, m < R.length) ∧ ∀ out H', AutAt G H' x R s out → Sorted out ms → But x H H' → Q .non H'
def t_Automaton_init (G : Gx) (W : WX) : TS :=
  tSeq (tDrop (tCall (sp_check_rows G) [] E0 (tCons (tVar 1) tNil)))
  (tSeq (tIfS (tNot (tB (tCall (sp_is_below G) [] E0 (tCons (tVar 2) (tCons (tCB (LX.rLen G.K) (tCons (tVar 1) tNil)) tNil))))) tNever tNext)
  (tSeq (tIfS (tOr (tNot (tB (tCall (sp_is_sequence G) [] E0 (tCons (tVar 3) tNil)))) (tNot (tB (tCB (rAll G.K) (tCons (tLc (iList G.K (tVar 3)) (gName 4) tYes (tCall (sp_is_below G) [] E0 (tCons (tVar 4) (tCons (tCB (LX.rLen G.K) (tCons (tVar 1) tNil)) tNil))) [4]) tNil))))) tNever tNext)
  (tDrop (tMeth G.c_Automaton "settle" (sp_Automaton_settle G) [] E0 (tVar 0) (tCons (tVar 1) (tCons (tVar 2) (tCons (tVar 3) tNil)))))))
/-- all([is_below(state, len(rows)) for state in xs]) -/
theorem lc_below {σ : L2.St} {H1 : Hp} {Dl p a : Addr} {i j : Nat} {ms : List Nat} {n : Nat} {xs : List V} {Qd : Hp → Prop} (hp : H1 p = some (.lst xs)) (hn : xs.length = n) (ha : H1 a = some (.lst (IL ms))) (hm : ∀ m ∈ ms, m < n) (hml : ms.length ≤ 16000000) (hj : ∀ x, ((wipe σ [i]).set i (some x))[j]? = some (some (.ref p)))
    (hi : ∀ x, ((wipe σ [i]).set i (some x))[i]? = some (some x)) (hD : H1 Dl = none) (hw : ∀ x, wipe ((wipe σ [i]).set i (some x)) [i] = wipe σ [i]) (hd : ∀ H, Same H1 H → H Dl = some (.lst ((List.replicate ms.length true).map V.bl)) → Qd H) :
    ∃ W : Nat → Nat → Hp → Prop, (∃ m, W 0 m (upd H1 Dl (.lst []))) ∧ ∀ k m H, W k m H →
      ((Itl G.K a).stop k H ∧ Qd H) ∨ ((Itl G.K a).go k H ∧ ∃ Nx : Hp → Prop, (∀ H', Nx H' → ∃ m', m' < m ∧ W (k + 1) m' H') ∧ ∀ x H', (Itl G.K a).yld k H x H' → gName i x (wipe σ [i]) H' fun σ2 H2 => wipe σ2 [i] = wipe σ [i] ∧ tYes σ2 H2 fun b H3 =>
        if b = true then tCall (sp_is_below G) [] E0 (tCons (tVar i) (tCons (tCB (LX.rLen G.K) (tCons (tVar j) tNil)) tNil)) σ2 H3 fun y H4 => ∃ acc, H4 Dl = some (.lst acc) ∧ acc.length < sizeLine ∧ Nx (upd H4 Dl (.lst (acc ++ [y]))) else Nx H3) := by
  refine lc_mapR (fixR_list G.K a (IL ms)) (fun _ => .bl true) (by rw [IL_len]; exact hml) hD (fun Hx sx => SqL.of (sx _ _ ha)) hw (fun q Hx Qx hq sx qx => ?_) fun Hx sx ex => ?_
  · rw [IL_len] at hq
    rw [IL_getD hq]
    refine ⟨_, hi _, _, hj _, ?_⟩
    walk_at "u"
    refine w_lenL (SqL.of (sx _ _ hp)) ?_
    rw [hn]
    exact ⟨rfl, _, _, rfl, hm _ (getD_mem hq), qx _ (Same.refl _)⟩
  · rw [(all_true _).1, IL_len] at ex
    exact hd Hx sx ex
theorem pure_Automaton_init (T : Txt G) (vs : List V) (H : Hp) (Q : VK) (E : XK) (h : sp_Automaton_init G vs H Q E) : t_Automaton_init G (fun cls d _ H => E cls d H) { nx := fun _ H' => Q .non H', rt := Q } (start ["self", "rows", "start", "accepted", "state"] vs) H := by
  obtain ⟨_, x, dx, p, a, R, k, s, ms, rfl, hx, m, rf, hs, ha, hms, hm, kk⟩ := h
  have m0 := m
  obtain ⟨ps, hp, hl, hrow⟩ := m
  unfold t_Automaton_init
  walk_at "u"
  refine ⟨rfl, p, R, k, rfl, m0, rf, fun H1 s1 => ?_⟩
  walk_at "u"
  refine w_lenL (SqL.of (s1 _ _ hp)) ?_
  rw [refs_len, hl]
  refine ⟨rfl, _, _, rfl, hs, ⟨_, rfl, ?_⟩⟩
  refine iteF ?_
  walk_at "u"
  refine ⟨rfl, a, _, rfl, .inl (s1 _ _ ha), fun H2 s2 => ⟨_, rfl, ?_⟩⟩
  refine iteF ?_
  walk_at "u"
  have s12 := s1.trans s2
  refine ⟨a, rfl, ⟨_, SqL.of (s12 _ _ ha)⟩, fun Dl hD => ?_⟩
  refine lc_below (n := R.length) (s12 _ _ hp) (by rw [refs_len]; exact hl) (s12 _ _ ha) hm (by omega) (fun _ => rfl) (fun _ => rfl) hD (fun _ => rfl) fun H3 s3 e3 => ?_
  walk_at "u"
  refine w_all (SqL.of e3) ?_
  rw [(all_true _).2]
  walk_at "u"
  refine iteF ?_
  walk_at "u"
  have s13 := s12.trans s3
  refine ⟨_, rfl, x, dx, [], rfl, s13 _ _ hx, rfl, ?_⟩
  walk_at "u"
  exact ⟨rfl, x, dx, p, a, R, s, ms, rfl, s13 _ _ hx, m0.same s13, by have := rf.2.1; omega, s13 _ _ ha, hms, fun out H4 h4 so b4 => kk out H4 h4 so ((But.of s13).trans b4)⟩
theorem ok_Automaton_init (T : Txt G) : FnOk P w G.K G.mg base (L2.CX P w) 4 G.f_Automaton_init G.d_Automaton_init ["self", "rows", "start", "accepted"] (sp_Automaton_init G) := by
  refine T.F_Automaton_init.okX sc_Automaton_init (fun _ _ _ _ h => h.1) (fun cdv A outer s H vs Q E hr h => ⟨t_Automaton_init G (fun cls d _ H => E cls d H), ?_, pure_Automaton_init T vs H Q E h⟩)
  have tk : Takes (cxOf (L2.CX P w) P w G.K G.mg base ["self", "rows", "start", "accepted", "state"] "Automaton.__init__" (defScope s_Automaton_init) G.f_Automaton_init cdv A outer s H E) (fun cls d _ H => E cls d H) := takes_of rfl rfl rfl rfl
  exact (pss_cons (ps_expr (pe_call (ok_check_rows T) (hr.mono (by decide)) rfl T.g_check_rows T.F_check_rows.kp T.b_check_rows .nil passL (pa_cons (pv 1) pa_nil)))
    (pss_cons (ps_if (pt_not (pt_val (pe_call (ok_is_below T) (hr.mono (by decide)) rfl T.g_is_below T.F_is_below.kp T.b_is_below .nil passL (pa_cons (pv 2) (pa_cons (pe_callB c_len (by rfl) T.n_len PySem.boot_len (pa_cons (pv 1) pa_nil)) pa_nil))))) (pss_one ps_never) pss_nil)
    (pss_cons (ps_if (PW.pt (pw_or (pt_not (pt_val (pe_call (ok_is_sequence T) (hr.mono (by decide)) rfl T.g_is_sequence T.F_is_sequence.kp T.b_is_sequence .nil passL (pa_cons (pv 3) pa_nil)))) (pw_or1 (pt_not (pt_val (pe_callB (cr_all rfl) (by rfl) T.n_all (by decide +kernel) (pa_cons (pe_lc (own := [("state", 4)]) (g := (gName 4)) (tt := tYes) rfl sc_Automaton_init.nd (pi_list (pv 3)) (blkOk_by (N := ["self", "rows", "start", "accepted", "state"]) (sc := defScope s_Automaton_init) (by decide +kernel)) (fun _ _ _ _ _ => pg_name (i := 4) sc_Automaton_init.nd rfl (by first | exact Or.inl rfl | exact Or.inr rfl)) (fun _ _ _ _ _ => pts_nil) (fun _ _ _ _ _ => pe_call (ok_is_below T) (hr.mono (by decide)) rfl T.g_is_below T.F_is_below.kp T.b_is_below .nil passL (pa_cons (pv 4) (pa_cons (pe_callB c_len (by rfl) T.n_len PySem.boot_len (pa_cons (pv 1) pa_nil)) pa_nil)))) pa_nil))))))) (pss_one ps_never) pss_nil)
    (pss_one (ps_expr (pe_meth (pv 0) T.cl_Automaton T.m_Automaton_settle (ok_Automaton_settle T) (hr.mono (by decide)) T.b_Automaton_settle .nil passL (pa_cons (pv 1) (pa_cons (pv 2) (pa_cons (pv 3) pa_nil)))))))))

def sp_Automaton_facts (G : Gx) : Sp := fun vs H Q _ => vs.length = 1 ∧ ∃ (x : Addr) (R : List (List Nat)) (s : Nat) (out : List Int), vs = [.ref x] ∧ AutAt G H x R s out ∧
  ∀ q H', (∃ p r, H' q = some (.tup [.str "automaton", .ref p, .int s, .ref r]) ∧ Mat .tup .tup H' p R ∧ H' r = some (.tup (out.map V.int))) → Same H H' → Q (.ref q) H'
def t_Automaton_facts (G : Gx) (W : WX) : TS :=
  tRet (tTup (tCons (tC (.str "automaton")) (tCons (tFld G.K (tVar 0) "rows") (tCons (tFld G.K (tVar 0) "start") (tCons (tFld G.K (tVar 0) "accepted") tNil)))))
theorem pure_Automaton_facts (T : Txt G) (vs : List V) (H : Hp) (Q : VK) (E : XK) (h : sp_Automaton_facts G vs H Q E) : t_Automaton_facts G (fun cls d _ H => E cls d H) { nx := fun _ H' => Q .non H', rt := Q } (start ["self"] vs) H := by
  obtain ⟨_, x, R, s, out, rfl, ⟨dx, p, q, d, hx, m, ho⟩, kk⟩ := h
  unfold t_Automaton_facts
  walk_at "u"
  refine ⟨x, _, dx, _, _, rfl, hx, T.cl_Automaton, T.na_Automaton_rows, lk_Automaton_rows _ _ _ _, ?_⟩
  walk_at "u"
  refine ⟨x, _, dx, _, _, rfl, hx, T.cl_Automaton, T.na_Automaton_start, lk_Automaton_start _ _ _ _, ?_⟩
  walk_at "u"
  refine ⟨x, _, dx, _, _, rfl, hx, T.cl_Automaton, T.na_Automaton_accepted, lk_Automaton_accepted _ _ _ _, ?_⟩
  walk_at "u"
  refine ⟨by show 4 ≤ sizeLine; decide, fun t ht => ?_⟩
  have s1 : Same H (upd H t (.tup [.str "automaton", .ref p, .int s, .ref q])) := same_new (Same.refl H) ht
  exact kk t _ ⟨p, q, upd_same, m.same s1, s1 _ _ ho⟩ s1
theorem ok_Automaton_facts (T : Txt G) : FnOk P w G.K G.mg base (L2.CX P w) 1 G.f_Automaton_facts G.d_Automaton_facts ["self"] (sp_Automaton_facts G) := by
  refine T.F_Automaton_facts.okX sc_Automaton_facts (fun _ _ _ _ h => h.1) (fun cdv A outer s H vs Q E hr h => ⟨t_Automaton_facts G (fun cls d _ H => E cls d H), ?_, pure_Automaton_facts T vs H Q E h⟩)
  have tk : Takes (cxOf (L2.CX P w) P w G.K G.mg base ["self"] "Automaton.facts" (defScope s_Automaton_facts) G.f_Automaton_facts cdv A outer s H E) (fun cls d _ H => E cls d H) := takes_of rfl rfl rfl rfl
  exact (pss_one (ps_ret (pe_tup (pa_cons pe_str (pa_cons (pe_fld (pv 0) rfl) (pa_cons (pe_fld (pv 0) rfl) (pa_cons (pe_fld (pv 0) rfl) pa_nil)))))))

/-! equality -/
def EqAut (G : Gx) : Addr → Addr → Hp → Prop := fun a b H => ∃ R s out, AutAt G H a R s out ∧ AutAt G H b R s out
def autD (R : List (List Nat)) (s : Nat) (out : List Int) : PyData := .tuple [.str "automaton", .tuple (RD R), .int s, .tuple (IDi out)]
theorem autD_lay (R : List (List Nat)) (s : Nat) (out : List Int) : (autD R s out).canLay0 = true := by
  refine lay_all (ds := [.str "automaton", .tuple (RD R), .int s, .tuple (IDi out)]) fun d hd => ?_
  have hd' : d = .str "automaton" ∨ d = .tuple (RD R) ∨ d = .int s ∨ d = .tuple (IDi out) := by simpa using hd
  rcases hd' with rfl | rfl | rfl | rfl
  · decide +kernel
  · exact RD_lay R
  · rfl
  · exact IDi_lay out
theorem autD_ok (R : List (List Nat)) (s : Nat) (out : List Int) : SeqAt.shaped (autD R s out) = true ∧ PyData.eqv (autD R s out) (autD R s out) = true := by
  refine ⟨shaped_of (autD_lay R s out) ?_, eqv_self _ (autD_lay R s out)⟩
  have h : PyData.depthAll [.str "automaton", .tuple (RD R), .int s, .tuple (IDi out)] ≤ 4 := depth_all fun d hd => by
    have hd' : d = .str "automaton" ∨ d = .tuple (RD R) ∨ d = .int s ∨ d = .tuple (IDi out) := by simpa using hd
    have h1 := RD_depth R
    have h2 := IDi_depth out
    rcases hd' with rfl | rfl | rfl | rfl
    · simp [PyData.depth]
    · show PyData.depthAll (RD R) + 1 ≤ 4; omega
    · simp [PyData.depth]
    · show PyData.depthAll (IDi out) + 1 ≤ 4; omega
  show PyData.depthAll _ + 1 ≤ 64
  omega
theorem autD_dp {K : PySem.W.Frag} {H : Hp} {q p r : Addr} {R : List (List Nat)} {s : Nat} {out : List Int} (h1 : H q = some (.tup [.str "automaton", .ref p, .int s, .ref r])) (h2 : Mat .tup .tup H p R) (h3 : H r = some (.tup (out.map V.int))) : Dp K H (.ref q) (autD R s out) :=
  .tup (SqT.of h1) (.cons (.str _) (.cons (dp_mat h2) (.cons (.int _) (.cons (.tup (SqT.of h3) (dpIi out)) .nil))))
def sp_Fact_eq (G : Gx) : Sp := spEq (EqAut G)
def t_Fact_eq (G : Gx) (W : WX) : TS :=
  tRet (tAndV (tCB (rIsi G.K) (tCons (tVar 1) (tCons (tC (.ref G.c_Fact)) tNil))) (tOp (rEqD G.K) (tMeth G.c_Automaton "facts" (sp_Automaton_facts G) [] E0 (tVar 0) tNil) (tMeth G.c_Automaton "facts" (sp_Automaton_facts G) [] E0 (tVar 1) tNil)))
theorem pure_Fact_eq (T : Txt G) (vs : List V) (H : Hp) (Q : VK) (E : XK) (h : sp_Fact_eq G vs H Q E) : t_Fact_eq G (fun cls d _ H => E cls d H) { nx := fun _ H' => Q .non H', rt := Q } (start ["self", "other"] vs) H := by
  obtain ⟨a, b, rfl, ⟨R, s, out, ha, hb⟩, k⟩ := h
  have ha0 := ha
  have hb0 := hb
  obtain ⟨dx, p, q, d, hx, _⟩ := ha
  obtain ⟨dy, p2, q2, d2, hy, _⟩ := hb
  unfold t_Fact_eq
  walk_at "u"
  refine ⟨_, _, _, _, _, rfl, .own _, T.is_Automaton.ty hy, T.kt_Automaton_Fact, ?_⟩
  refine ⟨_, rfl, iteT ?_⟩
  walk_at "u"
  refine ⟨_, rfl, a, dx, _, rfl, hx, ln_Automaton_facts _ _ _ _, ?_⟩
  walk_at "u"
  refine ⟨rfl, a, R, s, out, rfl, ha0, fun q1 H1 z1 s1 => ?_⟩
  refine ⟨_, rfl, b, dy, _, rfl, s1 _ _ hy, ln_Automaton_facts _ _ _ _, ?_⟩
  walk_at "u"
  refine ⟨rfl, b, R, s, out, rfl, hb0.keep s1, fun q3 H2 z2 s2 => ?_⟩
  obtain ⟨u1, v1, w1, w2, w3⟩ := z1
  obtain ⟨u2, v2, y1, y2, y3⟩ := z2
  refine ⟨autD R s out, autD R s out, autD_dp (s2 _ _ w1) (w2.same s2) (s2 _ _ w3), autD_dp y1 y2 y3, (autD_ok R s out).1, (autD_ok R s out).1, ?_⟩
  rw [(autD_ok R s out).2]
  exact k _ (s1.trans s2)
theorem ok_Fact_eq (T : Txt G) : FnOk P w G.K G.mg base (L2.CX P w) 2 G.f_Fact_eq G.d_Fact_eq ["self", "other"] (sp_Fact_eq G) := by
  refine T.F_Fact_eq.okX sc_Fact_eq (fun vs H Q E h => by obtain ⟨a, b, rfl, _⟩ := h; rfl) (fun cdv A outer s H vs Q E hr h => ⟨t_Fact_eq G (fun cls d _ H => E cls d H), ?_, pure_Fact_eq T vs H Q E h⟩)
  exact (pss_one (ps_ret (pe_and (pe_callB call_isi (by rfl) T.n_isinstance boot_isinstance (pa_cons (pv 1) (pa_cons (pe_glob rfl T.gc_Fact rfl) pa_nil))) (pe_one (pe_cmpR (op_eqD (hu64 hr)) (pe_meth0 (pv 0) T.cl_Automaton T.m_Automaton_facts (ok_Automaton_facts T) (hr.mono (by decide)) T.b_Automaton_facts .nil passL) (pe_meth0 (pv 1) T.cl_Automaton T.m_Automaton_facts (ok_Automaton_facts T) (hr.mono (by decide)) T.b_Automaton_facts .nil passL) (nomark _))))))

end
end K67

set_option Elab.async false
set_option linter.all false
set_option maxRecDepth 100000
set_option maxHeartbeats 4000000
namespace K67
open PySem PySem.Spec PyProof.Rows L2 LX M67
local macro_rules | `(tactic| walk_at "hp") => `(tactic| first | assumption | exact upd_same | (refine up_new (by assumption) ?_; walk_at "hp") | (refine up_ne (by first | assumption | (exact Ne.symm (by assumption))) ?_; walk_at "hp") | (refine up_mut (by assumption) (by intro z; cases z) ?_; walk_at "hp"))
local macro_rules | `(tactic| walk_at "w1") => `(tactic| first
  | (with_reducible refine w_seq ?_) | (with_reducible refine w_asg ?_) | (with_reducible refine w_name ?_) | (with_reducible refine w_ret ?_) | (with_reducible refine w_drop ?_) | (with_reducible refine w_ifS ?_)
  | (with_reducible refine w_var (by with_unfolding_all exact rfl) ?_) | (with_reducible refine w_c ?_) | (with_reducible refine w_op ?_) | (with_reducible refine w_test ?_) | (with_reducible refine w_B ?_)
  | (with_reducible refine w_bl ?_) | (with_reducible refine w_cons ?_) | (with_reducible refine w_nil ?_) | (with_reducible refine w_cb ?_) | (with_reducible refine w_call ?_) | (with_reducible refine w_callS ?_)
  | (with_reducible refine w_addI ?_) | (with_reducible refine w_subI ?_) | (with_reducible refine w_ltI ?_) | (with_reducible refine w_leI ?_) | (with_reducible refine w_gtI ?_) | (with_reducible refine w_geI ?_)
  | (with_reducible refine w_tAnd ?_) | (with_reducible refine w_tOr ?_) | (with_reducible refine w_tNot ?_) | (with_reducible refine w_andV ?_) | (with_reducible refine w_orV ?_) | (with_reducible refine w_notV ?_) | (with_reducible refine w_if ?_)
  | (with_reducible refine w_un ?_) | (with_reducible refine w_neg ?_) | (with_reducible refine w_intI ?_) | (with_reducible refine w_intB ?_) | (with_reducible refine w_abs ?_)
  | (with_reducible refine w_eq (by with_unfolding_all exact rfl) ?_) | (with_reducible refine w_ne (by with_unfolding_all exact rfl) ?_) | (with_reducible refine w_isNone ?_) | (with_reducible refine w_notNone ?_)
  | (with_reducible refine w_tup ?_) | (with_reducible refine w_lst ?_) | (with_reducible refine w_sl ?_) | (with_reducible refine w_noPart ?_) | (with_reducible refine w_part ?_) | (with_reducible refine w_partI ?_)
  | (with_reducible refine w_fld0 ?_) | (with_reducible refine w_rz ?_)
  | (with_reducible refine w_next ?_) | (with_reducible refine w_brk ?_) | (with_reducible refine w_cont ?_) | (with_reducible refine w_retN ?_))
local macro_rules | `(tactic| walk_at "w") => `(tactic| repeat walk_at "w1")
local macro_rules | `(tactic| walk_at "u1") => `(tactic| first | walk_at "w1" | (with_reducible refine w_gsub ?_) | (with_reducible refine w_par ?_) | (with_reducible refine w_par3 ?_) | (with_reducible refine w_pr2 ?_) | (with_reducible refine w_pr3 ?_) | (with_reducible refine w_then ?_) | (with_reducible refine w_for ?_) | (with_reducible refine w_rng1 ?_) | (with_reducible refine w_enumS ?_) | (with_reducible refine w_iList ?_) | (with_reducible refine w_iTup ?_) | (with_reducible refine w_iStr ?_) | (with_reducible refine w_make ?_) | (with_reducible refine w_lc ?_) | (with_reducible refine w_iEnum ?_) | (with_reducible refine w_iEnumT ?_) | (with_reducible refine w_chain ?_) | (with_reducible refine w_bm ?_))
local macro_rules | `(tactic| walk_at "u") => `(tactic| repeat walk_at "u1")
section
variable {P : Program} {w : World} {base : Heap} {G : Gx}
/-! checked, Language -/
def sp_checked (G : Gx) : Sp := fun vs H Q _ => vs.length = 1 ∧ ∃ (x dx : Addr) (fs : List (Str × V)), vs = [.ref x] ∧ H x = some (.ins G.c_Monoid dx fs) ∧ Q (.ref x) H
def t_checked (G : Gx) (W : WX) : TS :=
  tSeq (tIfS (tNot (tB (tCB (rIsi G.K) (tCons (tVar 0) (tCons (tC (.ref G.c_Monoid)) tNil))))) tNever tNext)
  (tRet (tVar 0))
theorem pure_checked (T : Txt G) (vs : List V) (H : Hp) (Q : VK) (E : XK) (h : sp_checked G vs H Q E) : t_checked G (fun cls d _ H => E cls d H) { nx := fun _ H' => Q .non H', rt := Q } (start ["monoid"] vs) H := by
  obtain ⟨_, x, dx, fs, rfl, hx, k⟩ := h
  unfold t_checked
  walk_at "u"
  refine ⟨_, _, _, _, _, rfl, .own _, T.is_Monoid.ty hx, T.kt_Monoid_Monoid, ⟨_, rfl, ?_⟩⟩
  refine iteF ?_
  walk_at "u"
  exact k
theorem ok_checked (T : Txt G) : FnOk P w G.K G.mg base (L2.CX P w) 1 G.f_checked G.d_checked ["monoid"] (sp_checked G) := by
  refine T.F_checked.okX sc_checked (fun _ _ _ _ h => h.1) (fun cdv A outer s H vs Q E hr h => ⟨t_checked G (fun cls d _ H => E cls d H), ?_, pure_checked T vs H Q E h⟩)
  have tk : Takes (cxOf (L2.CX P w) P w G.K G.mg base ["monoid"] "checked" (defScope s_checked) G.f_checked cdv A outer s H E) (fun cls d _ H => E cls d H) := takes_of rfl rfl rfl rfl
  exact (pss_cons (ps_if (pt_not (pt_val (pe_callB call_isi (by rfl) T.n_isinstance boot_isinstance (pa_cons (pv 0) (pa_cons (pe_glob rfl T.gc_Monoid rfl) pa_nil))))) (pss_one ps_never) pss_nil)
    (pss_one (ps_ret (pv 0))))
def LangAt (G : Gx) (H : Hp) (x : Addr) (R : List (List Nat)) (out : List Int) : Prop := ∃ dx m q d : Addr, H x = some (.ins G.c_Language dx (fl_Language (.ref m) (.ref q) (.ref d))) ∧ MonAt G H m R ∧ H q = some (.tup (out.map V.int))
theorem LangAt.keep {H H' : Hp} {x : Addr} {R : List (List Nat)} {out : List Int} (h : LangAt G H x R out) (t : Same H H') : LangAt G H' x R out := by
  obtain ⟨dx, m, q, d, h1, h2, h3⟩ := h
  exact ⟨dx, m, q, d, t _ _ h1, h2.keep t, t _ _ h3⟩
theorem MonAt.upd {H : Hp} {x C dx m : Addr} {fs : List (Str × V)} {o : HO} {R : List (List Nat)} (h : MonAt G H m R) (hx : H x = some (.ins C dx fs)) (ne : m ≠ x) : MonAt G (upd H x o) m R := by
  obtain ⟨dm, p, t, q, d, h1, h2, ⟨qs, t1, t2, t3⟩, h4, h5⟩ := h
  refine ⟨dm, p, t, q, d, by rw [upd_ne ne]; exact h1, mat_upd h2 hx, ⟨qs, ?_, t2, fun j hj => ?_⟩, mat_upd h4 hx, ?_⟩
  · rw [upd_ne (ne_of t1 hx (fun z => nomatch z))]; exact t1
  · rw [upd_ne (ne_of (t3 j hj) hx (fun z => nomatch z))]; exact t3 j hj
  · rw [upd_ne (ne_of h5 hx (fun z => nomatch z))]; exact h5
def sp_Language_init (G : Gx) : Sp := fun vs H Q _ => vs.length = 3 ∧ ∃ (x dx m a : Addr) (R : List (List Nat)) (k : Nat) (ms : List Nat), vs = [.ref x, .ref m, .ref a] ∧ H x = some (.ins G.c_Language dx []) ∧ MonAt G H m R ∧ Form R k ∧ k ≤ 4 ∧ R.length ≤ 500 ∧
  H a = some (.lst (IL ms)) ∧ ms.length ≤ 4000 ∧ (∀ m ∈ ms, m < R.length) ∧ ∀ out H', LangAt G H' x R out → Sorted out ms → But x H H' → Q .non H'
def t_Language_init (G : Gx) (w : World) (W : WX) : TS :=
  tSeq (tAsg (tFld G.K (tCall (sp_checked G) [] E0 (tCons (tVar 1) tNil)) "right") (gName 3))
  (tSeq (tIfS (tOr (tTest (tOp rGtI (tCB (LX.rLen G.K) (tCons (tOp (rIxT G.K) (tVar 3) (tC (.int 0))) tNil)) (tCB (LX.rLen G.K) (tCons (tC (.str "abcd")) tNil)))) (tNot (tB (tCall (sp_is_sequence G) [] E0 (tCons (tVar 2) tNil))))) tNever tNext)
  (tSeq (tIfS (tNot (tB (tCB (rAll G.K) (tCons (tLc (iList G.K (tVar 2)) (gName 4) tYes (tCall (sp_is_below G) [] E0 (tCons (tVar 4) (tCons (tCB (LX.rLen G.K) (tCons (tVar 3) tNil)) tNil))) [4]) tNil)))) tNever tNext)
  (tSeq (tIfS (tTest (tOp rGtI (tCB (LX.rLen G.K) (tCons (tVar 3) tNil)) (tC (.int 500)))) tNever tNext)
  (tSeq (sFld G.K (tVar 0) (tVar 1) "monoid")
  (tSeq (sFld G.K (tVar 0) (tThen (tCB (rSortedSetN w) (tCons (tCB (rSetOfL G.K w) (tCons (tVar 2) tNil)) tNil)) (kTup G.K)) "accepted")
  (sFld G.K (tVar 0) tDNewK "memory"))))))
/-- all([is_below(state, len(rows)) for state in xs]) -/
theorem lc_belowT {σ : L2.St} {H1 : Hp} {Dl p a : Addr} {i j : Nat} {ms : List Nat} {n : Nat} {xs : List V} {Qd : Hp → Prop} (hp : H1 p = some (.tup xs)) (hn : xs.length = n) (ha : H1 a = some (.lst (IL ms))) (hm : ∀ m ∈ ms, m < n) (hml : ms.length ≤ 16000000) (hj : ∀ x, ((wipe σ [i]).set i (some x))[j]? = some (some (.ref p)))
    (hi : ∀ x, ((wipe σ [i]).set i (some x))[i]? = some (some x)) (hD : H1 Dl = none) (hw : ∀ x, wipe ((wipe σ [i]).set i (some x)) [i] = wipe σ [i]) (hd : ∀ H, Same H1 H → H Dl = some (.lst ((List.replicate ms.length true).map V.bl)) → Qd H) :
    ∃ W : Nat → Nat → Hp → Prop, (∃ m, W 0 m (upd H1 Dl (.lst []))) ∧ ∀ k m H, W k m H →
      ((Itl G.K a).stop k H ∧ Qd H) ∨ ((Itl G.K a).go k H ∧ ∃ Nx : Hp → Prop, (∀ H', Nx H' → ∃ m', m' < m ∧ W (k + 1) m' H') ∧ ∀ x H', (Itl G.K a).yld k H x H' → gName i x (wipe σ [i]) H' fun σ2 H2 => wipe σ2 [i] = wipe σ [i] ∧ tYes σ2 H2 fun b H3 =>
        if b = true then tCall (sp_is_below G) [] E0 (tCons (tVar i) (tCons (tCB (LX.rLen G.K) (tCons (tVar j) tNil)) tNil)) σ2 H3 fun y H4 => ∃ acc, H4 Dl = some (.lst acc) ∧ acc.length < sizeLine ∧ Nx (upd H4 Dl (.lst (acc ++ [y]))) else Nx H3) := by
  refine lc_mapR (fixR_list G.K a (IL ms)) (fun _ => .bl true) (by rw [IL_len]; exact hml) hD (fun Hx sx => SqL.of (sx _ _ ha)) hw (fun q Hx Qx hq sx qx => ?_) fun Hx sx ex => ?_
  · rw [IL_len] at hq
    rw [IL_getD hq]
    refine ⟨_, hi _, _, hj _, ?_⟩
    walk_at "u"
    refine w_lenT (SqT.of (sx _ _ hp)) ?_
    rw [hn]
    exact ⟨rfl, _, _, rfl, hm _ (getD_mem hq), qx _ (Same.refl _)⟩
  · rw [(all_true _).1, IL_len] at ex
    exact hd Hx sx ex
theorem cls_ne (T : Txt G) {H : Hp} {x m dx dm : Addr} {fs gs : List (Str × V)} {fs0 fs1 fs2 fs3 : V} (hx : H x = some (.ins G.c_Language dx [])) (hm : H m = some (.ins G.c_Monoid dm (fl_Monoid fs0 fs1 fs2 fs3))) : m ≠ x := fun e => by
  subst e
  rw [hx] at hm
  have := Option.some.inj hm
  injection this with _ _ z
  cases z
theorem pure_Language_init (T : Txt G) (w : World) (vs : List V) (H : Hp) (Q : VK) (E : XK) (h : sp_Language_init G vs H Q E) : t_Language_init G w (fun cls d _ H => E cls d H) { nx := fun _ H' => Q .non H', rt := Q } (start ["self", "monoid", "accepted", "right", "number"] vs) H := by
  obtain ⟨_, x, dx, m, a, R, k, ms, rfl, hx, hm, fo, hk4, h500, ha, hms, hlt, kk⟩ := h
  have hm0 := hm
  obtain ⟨dm, p, t, q, d, hmx, mp, _, _, _⟩ := hm
  obtain ⟨ps, hp, hl, hrow⟩ := id mp
  have mx : m ≠ x := cls_ne (fs := []) (gs := []) T hx hmx
  obtain ⟨h1, h2, k1, k2, hr⟩ := fo
  unfold t_Language_init
  walk_at "u"
  refine ⟨rfl, m, dm, _, rfl, hmx, ?_⟩
  refine ⟨m, _, dm, _, _, rfl, hmx, T.cl_Monoid, T.na_Monoid_right, lk_Monoid_right _ _ _ _, ?_⟩
  walk_at "u"
  refine w_ixT (SqT.of hp) (by exact refs_at (i := 0) (by omega)) ?_
  walk_at "u"
  refine w_lenT (SqT.of (hrow 0 (by omega))) ?_
  rw [IL_len, (hr 0 (by omega)).1]
  walk_at "u"
  refine w_lenS (by decide +kernel) ?_
  walk_at "u"
  refine w_ite (fun z => absurd z (by rw [e_signs]; omega)) fun _ => ?_
  walk_at "u"
  refine ⟨rfl, a, _, rfl, .inl ha, fun H2 s2 => ⟨_, rfl, ?_⟩⟩
  refine iteF ?_
  walk_at "u"
  refine ⟨a, rfl, ⟨_, SqL.of (s2 _ _ ha)⟩, fun Dl hD => ?_⟩
  refine lc_belowT (n := R.length) (s2 _ _ hp) (by rw [refs_len]; exact hl) (s2 _ _ ha) hlt (by omega) (fun _ => rfl) (fun _ => rfl) hD (fun _ => rfl) fun H3 s3 e3 => ?_
  walk_at "u"
  refine w_all (SqL.of e3) ?_
  rw [(all_true _).2]
  walk_at "u"
  refine iteF ?_
  have s13 := s2.trans s3
  walk_at "u"
  refine w_lenT (SqT.of (s13 _ _ hp)) ?_
  rw [refs_len, hl]
  walk_at "u"
  refine w_ite (fun z => absurd z (by omega)) fun _ => ?_
  walk_at "u"
  with_reducible refine w_sFld ?_
  walk_at "u"
  have hx3 := s13 _ _ hx
  refine ⟨x, _, dx, _, rfl, hx3, T.cl_Language, T.na_Language_monoid, by show 0 < 1000; decide, ?_⟩
  rw [pf_Language_monoid]
  have m4 := (hm0.keep s13).upd (o := .ins G.c_Language dx [("monoid", .ref m)]) hx3 mx
  have b4 : But x H (upd H3 x (.ins G.c_Language dx [("monoid", .ref m)])) := (But.of s13).mutA
  have hx4 : upd H3 x (.ins G.c_Language dx [("monoid", .ref m)]) x = some (.ins G.c_Language dx [("monoid", .ref m)]) := upd_same
  generalize upd H3 x (.ins G.c_Language dx [("monoid", .ref m)]) = H5 at m4 b4 hx4
  dsimp only
  with_reducible refine w_seq ?_
  with_reducible refine w_sFld ?_
  walk_at "u"
  have ha5 : H5 a = some (.lst (IL ms)) := b4 _ _ ha (ne_of ha hx (fun z => nomatch z))
  refine ⟨a, ms.map fun m => ((m : Nat) : Int), rfl, SqL.of (by rw [ha5, ILi]), by rw [List.length_map]; exact hms, fun sa c hsa hc => ?_⟩
  refine ⟨sa, _, c, rfl, upd_same, fun out o up mem len ho => ?_⟩
  refine w_kTupL (SqL.of upd_same) fun r hr' => ?_
  have so : Sorted out ms := ⟨up, fun k => by rw [mem k, decide_eq_true_eq]; exact mem_cast⟩
  have s6 : Same H5 (upd (upd (upd H5 sa (SetO w sa (fun j => decide (j ∈ ms.map fun m => ((m : Nat) : Int))) c)) o (.lst (out.map V.int))) r (.tup (out.map V.int))) := same_new (same_new (same_new (Same.refl H5) hsa) ho) hr'
  have hr6 : upd (upd (upd H5 sa (SetO w sa (fun j => decide (j ∈ ms.map fun m => ((m : Nat) : Int))) c)) o (.lst (out.map V.int))) r (.tup (out.map V.int)) r = some (.tup (out.map V.int)) := upd_same
  generalize upd (upd (upd H5 sa (SetO w sa (fun j => decide (j ∈ ms.map fun m => ((m : Nat) : Int))) c)) o (.lst (out.map V.int))) r (.tup (out.map V.int)) = H6 at s6 hr6
  walk_at "u"
  have hx6 := s6 _ _ hx4
  refine ⟨x, _, dx, _, rfl, hx6, T.cl_Language, T.na_Language_accepted, by show 1 < 1000; decide, ?_⟩
  rw [pf_Language_accepted]
  have m7 := (m4.keep s6).upd (o := .ins G.c_Language dx [("monoid", .ref m), ("accepted", .ref r)]) hx6 mx
  have b7 : But x H (upd H6 x (.ins G.c_Language dx [("monoid", .ref m), ("accepted", .ref r)])) := (b4.thenSame s6).mutA
  have hr7 : upd H6 x (.ins G.c_Language dx [("monoid", .ref m), ("accepted", .ref r)]) r = some (.tup (out.map V.int)) := by rw [upd_ne (ne_of hr6 hx6 (fun z => nomatch z))]; exact hr6
  have hx7 : upd H6 x (.ins G.c_Language dx [("monoid", .ref m), ("accepted", .ref r)]) x = some (.ins G.c_Language dx [("monoid", .ref m), ("accepted", .ref r)]) := upd_same
  generalize upd H6 x (.ins G.c_Language dx [("monoid", .ref m), ("accepted", .ref r)]) = H7 at m7 b7 hr7 hx7
  dsimp only
  with_reducible refine w_sFld ?_
  intro d' hd
  walk_at "u"
  have hx8 : upd H7 d' (.dK []) x = some (.ins G.c_Language dx [("monoid", .ref m), ("accepted", .ref r)]) := up_new hd hx7
  refine ⟨x, _, dx, _, rfl, hx8, T.cl_Language, T.na_Language_memory, by show 2 < 1000; decide, ?_⟩
  rw [pf_Language_memory]
  have s8 : Same H7 (upd H7 d' (.dK [])) := same_new (Same.refl H7) hd
  refine kk out _ ⟨dx, m, r, d', upd_same, (m7.keep s8).upd hx8 mx, ?_⟩ so (b7.thenSame s8).mutA
  rw [upd_ne (ne_of (s8 _ _ hr7) hx8 (fun z => nomatch z))]
  exact s8 _ _ hr7
theorem ok_Language_init (T : Txt G) : FnOk P w G.K G.mg base (L2.CX P w) 3 G.f_Language_init G.d_Language_init ["self", "monoid", "accepted"] (sp_Language_init G) := by
  refine T.F_Language_init.okX sc_Language_init (fun _ _ _ _ h => h.1) (fun cdv A outer s H vs Q E hr h => ⟨t_Language_init G w (fun cls d _ H => E cls d H), ?_, pure_Language_init T w vs H Q E h⟩)
  exact (pss_cons (ps_set (i := 3) sc_Language_init.nd rfl (by first | exact Or.inl rfl | exact Or.inr rfl) (pe_fld (pe_call (ok_checked T) (hr.mono (by decide)) rfl T.g_checked T.F_checked.kp T.b_checked .nil passL (pa_cons (pv 1) pa_nil)) rfl))
    (pss_cons (ps_if (PW.pt (pw_or (pt_cmpR o_gtI (pe_callB c_len (by rfl) T.n_len PySem.boot_len (pa_cons (pe_ix ix_tup (pv 3) pe_int (fun _ _ => rfl)) pa_nil)) (pe_callB c_len (by rfl) T.n_len PySem.boot_len (pa_cons (pe_g T.k_SIGNS) pa_nil)) (nomark _)) (pw_or1 (pt_not (pt_val (pe_call (ok_is_sequence T) (hr.mono (by decide)) rfl T.g_is_sequence T.F_is_sequence.kp T.b_is_sequence .nil passL (pa_cons (pv 2) pa_nil))))))) (pss_one ps_never) pss_nil)
    (pss_cons (ps_if (pt_not (pt_val (pe_callB (cr_all rfl) (by rfl) T.n_all (by decide +kernel) (pa_cons (pe_lc (own := [("number", 4)]) (g := (gName 4)) (tt := tYes) rfl sc_Language_init.nd (pi_list (pv 2)) (blkOk_by (N := ["self", "monoid", "accepted", "right", "number"]) (sc := defScope s_Language_init) (by decide +kernel)) (fun _ _ _ _ _ => pg_name (i := 4) sc_Language_init.nd rfl (by first | exact Or.inl rfl | exact Or.inr rfl)) (fun _ _ _ _ _ => pts_nil) (fun _ _ _ _ _ => pe_call (ok_is_below T) (hr.mono (by decide)) rfl T.g_is_below T.F_is_below.kp T.b_is_below .nil passL (pa_cons (pv 4) (pa_cons (pe_callB c_len (by rfl) T.n_len PySem.boot_len (pa_cons (pv 3) pa_nil)) pa_nil)))) pa_nil)))) (pss_one ps_never) pss_nil)
    (pss_cons (ps_if (pt_cmpR o_gtI (pe_callB c_len (by rfl) T.n_len PySem.boot_len (pa_cons (pv 3) pa_nil)) (pe_g T.k_MOST_MADE) (nomark _)) (pss_one ps_never) pss_nil)
    (pss_cons (ps_fld (pv 0) (pv 1) rfl)
    (pss_cons (ps_fld (pv 0) (pe_tupleOf rfl T.n_tuple (pe_callB (cr_sortedSetN rfl) (by rfl) T.n_sorted (by decide +kernel) (pa_cons (pe_callTy (cr_setOfL rfl) (by rfl) T.n_set (by decide +kernel) (pa_cons (pv 2) pa_nil)) pa_nil))) rfl)
    (pss_one (ps_fld (pv 0) pe_dnewK rfl))))))))

end
end K67

set_option Elab.async false
set_option linter.all false
set_option maxRecDepth 100000
set_option maxHeartbeats 4000000
namespace K67
open PySem PySem.Spec PyProof.Rows L2 LX M67
local macro_rules | `(tactic| walk_at "hp") => `(tactic| first | assumption | exact upd_same | (refine up_new (by assumption) ?_; walk_at "hp") | (refine up_ne (by first | assumption | (exact Ne.symm (by assumption))) ?_; walk_at "hp") | (refine up_mut (by assumption) (by intro z; cases z) ?_; walk_at "hp"))
local macro_rules | `(tactic| walk_at "w1") => `(tactic| first
  | (with_reducible refine w_seq ?_) | (with_reducible refine w_asg ?_) | (with_reducible refine w_name ?_) | (with_reducible refine w_ret ?_) | (with_reducible refine w_drop ?_) | (with_reducible refine w_ifS ?_)
  | (with_reducible refine w_var (by with_unfolding_all exact rfl) ?_) | (with_reducible refine w_c ?_) | (with_reducible refine w_op ?_) | (with_reducible refine w_test ?_) | (with_reducible refine w_B ?_)
  | (with_reducible refine w_bl ?_) | (with_reducible refine w_cons ?_) | (with_reducible refine w_nil ?_) | (with_reducible refine w_cb ?_) | (with_reducible refine w_call ?_) | (with_reducible refine w_callS ?_)
  | (with_reducible refine w_addI ?_) | (with_reducible refine w_subI ?_) | (with_reducible refine w_ltI ?_) | (with_reducible refine w_leI ?_) | (with_reducible refine w_gtI ?_) | (with_reducible refine w_geI ?_)
  | (with_reducible refine w_tAnd ?_) | (with_reducible refine w_tOr ?_) | (with_reducible refine w_tNot ?_) | (with_reducible refine w_andV ?_) | (with_reducible refine w_orV ?_) | (with_reducible refine w_notV ?_) | (with_reducible refine w_if ?_)
  | (with_reducible refine w_un ?_) | (with_reducible refine w_neg ?_) | (with_reducible refine w_intI ?_) | (with_reducible refine w_intB ?_) | (with_reducible refine w_abs ?_)
  | (with_reducible refine w_eq (by with_unfolding_all exact rfl) ?_) | (with_reducible refine w_ne (by with_unfolding_all exact rfl) ?_) | (with_reducible refine w_isNone ?_) | (with_reducible refine w_notNone ?_)
  | (with_reducible refine w_tup ?_) | (with_reducible refine w_lst ?_) | (with_reducible refine w_sl ?_) | (with_reducible refine w_noPart ?_) | (with_reducible refine w_part ?_) | (with_reducible refine w_partI ?_)
  | (with_reducible refine w_fld0 ?_) | (with_reducible refine w_rz ?_)
  | (with_reducible refine w_next ?_) | (with_reducible refine w_brk ?_) | (with_reducible refine w_cont ?_) | (with_reducible refine w_retN ?_))
local macro_rules | `(tactic| walk_at "w") => `(tactic| repeat walk_at "w1")
local macro_rules | `(tactic| walk_at "u1") => `(tactic| first | walk_at "w1" | (with_reducible refine w_gsub ?_) | (with_reducible refine w_par ?_) | (with_reducible refine w_par3 ?_) | (with_reducible refine w_pr2 ?_) | (with_reducible refine w_pr3 ?_) | (with_reducible refine w_then ?_) | (with_reducible refine w_for ?_) | (with_reducible refine w_rng1 ?_) | (with_reducible refine w_enumS ?_) | (with_reducible refine w_iList ?_) | (with_reducible refine w_iTup ?_) | (with_reducible refine w_iStr ?_) | (with_reducible refine w_make ?_) | (with_reducible refine w_lc ?_) | (with_reducible refine w_iEnum ?_) | (with_reducible refine w_iEnumT ?_) | (with_reducible refine w_chain ?_) | (with_reducible refine w_bm ?_))
local macro_rules | `(tactic| walk_at "u") => `(tactic| repeat walk_at "u1")
section
variable {P : Program} {w : World} {base : Heap} {G : Gx}
/-! things, words -/
def ThingAt (G : Gx) (H : Hp) (x : Addr) (R : List (List Nat)) (s : Nat) (out : List Int) : Prop := AutAt G H x R s out ∨ (LangAt G H x R out ∧ s = 0)
theorem ThingAt.keep {H H' : Hp} {x : Addr} {R : List (List Nat)} {s : Nat} {out : List Int} (h : ThingAt G H x R s out) (t : Same H H') : ThingAt G H' x R s out := h.imp (fun z => z.keep t) fun z => ⟨z.1.keep t, z.2⟩
def sp_table_of (G : Gx) : Sp := fun vs H Q _ => vs.length = 1 ∧ ∃ (x : Addr) (R : List (List Nat)) (s : Nat) (out : List Int), vs = [.ref x] ∧ ThingAt G H x R s out ∧
  ∀ q H', (∃ p r, H' q = some (.tup [.ref p, .int s, .ref r]) ∧ Mat .tup .tup H' p R ∧ H' r = some (.tup (out.map V.int))) → Same H H' → Q (.ref q) H'
def t_table_of (G : Gx) (W : WX) : TS :=
  tSeq (tIfS (tB (tCB (rIsi G.K) (tCons (tVar 0) (tCons (tC (.ref G.c_Language)) tNil)))) (tRet (tTup (tCons (tFld G.K (tFld G.K (tVar 0) "monoid") "right") (tCons (tC (.int 0)) (tCons (tFld G.K (tVar 0) "accepted") tNil))))) tNext)
  (tSeq (tIfS (tNot (tB (tCB (rIsi G.K) (tCons (tVar 0) (tCons (tC (.ref G.c_Automaton)) tNil))))) tNever tNext)
  (tRet (tTup (tCons (tFld G.K (tVar 0) "rows") (tCons (tFld G.K (tVar 0) "start") (tCons (tFld G.K (tVar 0) "accepted") tNil))))))
theorem pure_table_of (T : Txt G) (vs : List V) (H : Hp) (Q : VK) (E : XK) (h : sp_table_of G vs H Q E) : t_table_of G (fun cls d _ H => E cls d H) { nx := fun _ H' => Q .non H', rt := Q } (start ["thing"] vs) H := by
  obtain ⟨_, x, R, s, out, rfl, th, k⟩ := h
  unfold t_table_of
  walk_at "u"
  rcases th with ⟨dx, p, q, d, hx, mp, hq⟩ | ⟨⟨dx, m, q, d, hx, ⟨dm, p, t, q2, d2, hm, mp, _⟩, hq⟩, rfl⟩
  · refine ⟨_, _, _, _, _, rfl, .own _, T.is_Automaton.ty hx, T.kt_Automaton_Language, ⟨_, rfl, ?_⟩⟩
    refine iteF ?_
    walk_at "u"
    refine ⟨_, _, _, _, _, rfl, .own _, T.is_Automaton.ty hx, T.kt_Automaton_Automaton, ⟨_, rfl, ?_⟩⟩
    refine iteF ?_
    walk_at "u"
    refine ⟨x, _, dx, _, _, rfl, hx, T.cl_Automaton, T.na_Automaton_rows, lk_Automaton_rows _ _ _ _, ?_⟩
    walk_at "u"
    refine ⟨x, _, dx, _, _, rfl, hx, T.cl_Automaton, T.na_Automaton_start, lk_Automaton_start _ _ _ _, ?_⟩
    walk_at "u"
    refine ⟨x, _, dx, _, _, rfl, hx, T.cl_Automaton, T.na_Automaton_accepted, lk_Automaton_accepted _ _ _ _, ?_⟩
    walk_at "u"
    refine ⟨by show 3 ≤ sizeLine; decide, fun z hz => k z _ ⟨p, q, upd_same, mp.same (same_new (Same.refl H) hz), up_new hz hq⟩ (same_new (Same.refl H) hz)⟩
  · refine ⟨_, _, _, _, _, rfl, .own _, T.is_Language.ty hx, T.kt_Language_Language, ⟨_, rfl, ?_⟩⟩
    refine iteT ?_
    walk_at "u"
    refine ⟨x, _, dx, _, _, rfl, hx, T.cl_Language, T.na_Language_monoid, lk_Language_monoid _ _ _, ?_⟩
    refine ⟨m, _, dm, _, _, rfl, hm, T.cl_Monoid, T.na_Monoid_right, lk_Monoid_right _ _ _ _, ?_⟩
    walk_at "u"
    refine ⟨x, _, dx, _, _, rfl, hx, T.cl_Language, T.na_Language_accepted, lk_Language_accepted _ _ _, ?_⟩
    walk_at "u"
    refine ⟨by show 3 ≤ sizeLine; decide, fun z hz => k z _ ⟨p, q, upd_same, mp.same (same_new (Same.refl H) hz), up_new hz hq⟩ (same_new (Same.refl H) hz)⟩
theorem ok_table_of (T : Txt G) : FnOk P w G.K G.mg base (L2.CX P w) 1 G.f_table_of G.d_table_of ["thing"] (sp_table_of G) := by
  refine T.F_table_of.okX sc_table_of (fun _ _ _ _ h => h.1) (fun cdv A outer s H vs Q E hr h => ⟨t_table_of G (fun cls d _ H => E cls d H), ?_, pure_table_of T vs H Q E h⟩)
  have tk : Takes (cxOf (L2.CX P w) P w G.K G.mg base ["thing"] "table_of" (defScope s_table_of) G.f_table_of cdv A outer s H E) (fun cls d _ H => E cls d H) := takes_of rfl rfl rfl rfl
  exact (pss_cons (ps_if (pt_val (pe_callB call_isi (by rfl) T.n_isinstance boot_isinstance (pa_cons (pv 0) (pa_cons (pe_glob rfl T.gc_Language rfl) pa_nil)))) (pss_one (ps_ret (pe_tup (pa_cons (pe_fld (pe_fld (pv 0) rfl) rfl) (pa_cons pe_int (pa_cons (pe_fld (pv 0) rfl) pa_nil)))))) pss_nil)
    (pss_cons (ps_if (pt_not (pt_val (pe_callB call_isi (by rfl) T.n_isinstance boot_isinstance (pa_cons (pv 0) (pa_cons (pe_glob rfl T.gc_Automaton rfl) pa_nil))))) (pss_one ps_never) pss_nil)
    (pss_one (ps_ret (pe_tup (pa_cons (pe_fld (pv 0) rfl) (pa_cons (pe_fld (pv 0) rfl) (pa_cons (pe_fld (pv 0) rfl) pa_nil))))))))

/-- the first k signs -/
def sg (k : Nat) : List Nat := [97, 98, 99, 100].take k
def OkW (l : List Nat) (k : Nat) : Prop := l.length ≤ 300 ∧ ∀ c ∈ l, c ∈ sg k
def BadW (G : Gx) (H : Hp) (v : V) (k : Nat) : Prop := (∃ t, TyX G.K H v (.type t) ∧ kitB t "str" = some false) ∨ ∃ l, v = .str (S l) ∧ l.length ≤ 16000000 ∧ (∀ c ∈ l, c < 1000) ∧ (300 < l.length ∨ ∃ c ∈ l, c ∉ sg k)
def sp_check_word (G : Gx) : Sp := fun vs H Q E => vs.length = 3 ∧ ∃ (v : V) (k : Nat), vs = [v, .int k, .int 300] ∧ k ≤ 4 ∧ ((∃ l, v = .str (S l) ∧ OkW l k ∧ ∀ H', Same H H' → Q .non H') ∨
  (BadW G H v k ∧ ∀ e H', H' e = some (.xd [("word", v)]) → Same H H' → E (.ref G.c_NoWord) (some e) H'))
def t_check_word (G : Gx) (W : WX) : TS :=
  tIfS (tOr (tNot (tB (tCB (rIsi G.K) (tCons (tVar 0) (tCons (tC (.ty "str")) tNil))))) (tOr (tTest (tOp rGtI (tCB (LX.rLen G.K) (tCons (tVar 0) tNil)) (tVar 2))) (tTest (tOp (rNeD G.K) (tLc (iStr (tVar 0)) (gName 3) (tTest (tOp rNinG (tVar 3) (tSl rSlS (tC (.str "abcd")) tNoPart (tPart (tVar 1))))) (tVar 3) [3]) (tLst tNil))))) (tRz G.K G.c_NoWord "word" W (tVar 0)) tNext
theorem str_str : kitB "str" "str" = some true := by decide +kernel
theorem e_abcd : ("abcd" : Str) = S [97, 98, 99, 100] := by decide +kernel
theorem cut_sg (k : Nat) : cutS ("abcd" : Str) none (some (k : Nat)) = S (sg k) := by
  rw [e_abcd, S_cut, HT.sIx_nat]
  show S (([97, 98, 99, 100] : List Nat).take (min k 4)) = S (sg k)
  unfold sg
  congr 1
  by_cases h : k ≤ 4
  · rw [Nat.min_eq_left h]
  · have e : ([97, 98, 99, 100] : List Nat).take k = [97, 98, 99, 100] := List.take_of_length_le (by show 4 ≤ k; omega)
    rw [Nat.min_eq_right (by omega), e]
    rfl
theorem S_get {l : List Nat} {j : Nat} (h : j < l.length) : (S l).cps.getD j 0 = l.getD j 0 := by
  show l.toArray.getD j 0 = _
  rw [Array.getD_eq_getD_getElem?, List.getD_eq_getElem?_getD]
  simp
/-- the strange signs of a word, as the comprehension gives them -/
def odd (l : List Nat) (k : Nat) : List Nat := l.filter fun c => !decide (c ∈ sg k)
theorem range_filter {α : Type} (l : List Nat) (f : Nat → Bool) (g : Nat → α) : ((List.range l.length).filter fun i => f (l.getD i 0)).map (fun i => g (l.getD i 0)) = (l.filter f).map g := by
  have e : l = (List.range l.length).map fun i => l.getD i 0 := by
    refine List.ext_getElem (by simp) fun i h1 h2 => ?_
    rw [List.getElem_map, List.getElem_range, List.getD_eq_getElem?_getD, List.getElem?_eq_getElem h1]
    rfl
  conv => rhs; rw [e, List.filter_map, List.map_map]
  rfl
def SD (l : List Nat) : List PyData := l.map fun c => .str (S [c])
theorem SD_lay {l : List Nat} (h : ∀ c ∈ l, c < 1000) : PyData.canLayAll0 (SD l) = true := lay_all fun d hd => by
  obtain ⟨c, hc, rfl⟩ := List.mem_map.mp hd
  have : ∀ c, c < 1000 → PyData.canLay0 (.str (S [c])) = true := by decide +kernel
  exact this c (h c hc)
theorem dpS {K : PySem.W.Frag} {H : Hp} : ∀ l : List Nat, DpAll K H (l.map fun c => .str (S [c])) (SD l)
  | [] => .nil
  | c :: l => .cons (.str _) (dpS l)
theorem pure_check_word (T : Txt G) (vs : List V) (H : Hp) (Q : VK) (E : XK) (h : sp_check_word G vs H Q E) : t_check_word G (fun cls d _ H => E cls d H) { nx := fun _ H' => Q .non H', rt := Q } (start ["word", "letters", "most", "one"] vs) H := by
  obtain ⟨_, v, k, rfl, hk, h⟩ := h
  unfold t_check_word
  walk_at "u"
  -- the comprehension and the comparison, for a text
  have comp : ∀ (l : List Nat) (Q1 : VK), l.length ≤ 16000000 → (∀ c ∈ l, c < 1000) → (∀ H', Same H H' → Q1 (.bl (decide (odd l k ≠ []))) H') →
      tOp (rNeD G.K) (tLc (iStr (tVar 0)) (gName 3) (tTest (tOp rNinG (tVar 3) (tSl rSlS (tC (.str "abcd")) tNoPart (tPart (tVar 1))))) (tVar 3) [3]) (tLst tNil) (start ["word", "letters", "most", "one"] [.str (S l), .int k, .int 300]) H Q1 := by
    intro l Q1 hl hc kq
    walk_at "u"
    refine ⟨_, rfl, fun Dl hD => ?_⟩
    have hz : (S l).cps.size = l.length := S_len l
    refine lc_filter (i := 3) (fix_str (S l)) (fun j => (fun c => !decide (c ∈ sg k)) ((S l).cps.getD j 0)) (by rw [hz]; exact hl) hD (fun _ => rfl) (fun _ => rfl) (fun j Hx R hj sx q => ?_) fun Hx sx ex => ?_
    · walk_at "u"
      refine w_slS (by decide +kernel) ?_
      rw [cut_sg]
      refine ⟨_, _, rfl, rfl, ⟨_, rfl, ?_⟩⟩
      rw [S_cps]
      exact q
    · walk_at "u"
      refine ⟨by show 0 ≤ sizeLine; decide, fun z hz' => ?_⟩
      have e1 : (((List.range (S l).cps.size).filter fun j => (fun c => !decide (c ∈ sg k)) ((S l).cps.getD j 0)).map fun j => V.str ⟨#[(S l).cps.getD j 0]⟩) = (odd l k).map fun c => .str (S [c]) := by
        show _ = (l.filter fun c => !decide (c ∈ sg k)).map fun c => V.str (S [c])
        rw [hz, ← range_filter l (fun c => !decide (c ∈ sg k)) fun c => V.str (S [c])]
        have e2 : ((List.range l.length).filter fun j => (fun c => !decide (c ∈ sg k)) ((S l).cps.getD j 0)) = (List.range l.length).filter fun j => (fun c => !decide (c ∈ sg k)) (l.getD j 0) := List.filter_congr fun j hj => by
          rw [S_get (List.mem_range.mp hj)]
        rw [e2]
        refine List.map_congr_left fun j hj => ?_
        rw [S_get (List.mem_range.mp (List.mem_filter.mp hj).1)]
        rfl
      rw [e1] at ex
      have hlay : PyData.canLayAll0 (SD (odd l k)) = true := SD_lay fun c hm => hc c ((List.mem_filter.mp hm).1)
      refine ⟨.list (SD (odd l k)), .list [], .lst (SqL.of (up_new hz' ex)) (dpS _), .lst (SqL.of upd_same) .nil, shaped_of hlay ?_, rfl, ?_⟩
      · have : PyData.depthAll (SD (odd l k)) ≤ 1 := depth_all fun d hd => by
          obtain ⟨c, _, rfl⟩ := List.mem_map.mp hd
          simp [PyData.depth]
        show PyData.depthAll (SD (odd l k)) + 1 ≤ 64
        omega
      · have e3 : (!PyData.eqv (.list (SD (odd l k))) (.list [])) = decide (odd l k ≠ []) := by
          cases odd l k with
          | nil => rfl
          | cons c r => rfl
        rw [e3]
        exact kq _ (same_new sx hz')
  rcases h with ⟨l, rfl, ⟨hl, hok⟩, kQ⟩ | ⟨bad, kE⟩
  · have c97 : ∀ c ∈ l, c < 1000 := fun c hc => by
      have := List.mem_of_mem_take (hok c hc)
      simp at this
      omega
    refine ⟨_, _, _, _, _, rfl, .ty _, .base (.str _), kit_ty str_str, ⟨_, rfl, ?_⟩⟩
    refine iteF ?_
    walk_at "u"
    refine w_lenS (line1000 (by rw [S_len]; omega)) ?_
    walk_at "u"
    rw [S_len]
    refine w_ite (fun z => absurd z (by omega)) fun _ => ?_
    with_reducible refine w_test ?_
    refine comp l _ (by omega) c97 fun H' s' => ⟨_, rfl, ?_⟩
    have eo : odd l k = [] := List.filter_eq_nil_iff.mpr fun c hc => by simp [hok c hc]
    rw [eo]
    refine iteF ?_
    walk_at "u"
    exact kQ _ s'
  · have go : ∀ (H1 : Hp) (σ : L2.St), σ[0]? = some (some v) → Same H H1 → tRz G.K G.c_NoWord "word" (fun cls d _ H => E cls d H) (tVar 0) { nx := fun _ H' => Q .non H', rt := Q } σ H1 := fun H1 σ e0 s1 => by
      with_reducible refine w_rz ?_
      refine ⟨v, e0, ?_⟩
      refine w_mk T.oe_NoWord T.no_NoWord_word fun d0 hd0 => ?_
      exact kE d0 _ upd_same (same_new s1 hd0)
    rcases bad with ⟨t, ty, hkt⟩ | ⟨l, rfl, hl, hc, hb⟩
    · refine ⟨_, _, _, _, _, rfl, .ty _, ty, kit_ty hkt, ⟨_, rfl, ?_⟩⟩
      refine iteT ?_
      exact go _ _ rfl (Same.refl H)
    · refine ⟨_, _, _, _, _, rfl, .ty _, .base (.str _), kit_ty str_str, ⟨_, rfl, ?_⟩⟩
      refine iteF ?_
      walk_at "u"
      refine w_lenS (line1000 (by rw [S_len]; omega)) ?_
      walk_at "u"
      rw [S_len]
      refine w_ite (fun z => go _ _ rfl (Same.refl H)) fun hn => ?_
      with_reducible refine w_test ?_
      refine comp l _ hl hc fun H' s' => ⟨_, rfl, ?_⟩
      have eo : odd l k ≠ [] := by
        rcases hb with hb | ⟨c, hc1, hc2⟩
        · exact absurd (by omega) hn
        · have : c ∈ odd l k := List.mem_filter.mpr ⟨hc1, by simp [hc2]⟩
          exact List.ne_nil_of_mem this
      rw [decide_eq_true eo]
      refine iteT ?_
      exact go _ _ rfl s'
theorem ok_check_word (T : Txt G) : FnOk P w G.K G.mg base (L2.CX P w) 3 G.f_check_word G.d_check_word ["word", "letters", "most"] (sp_check_word G) := by
  refine T.F_check_word.okX sc_check_word (fun _ _ _ _ h => h.1) (fun cdv A outer s H vs Q E hr h => ⟨t_check_word G (fun cls d _ H => E cls d H), ?_, pure_check_word T vs H Q E h⟩)
  have tk : Takes (cxOf (L2.CX P w) P w G.K G.mg base ["word", "letters", "most", "one"] "check_word" (defScope s_check_word) G.f_check_word cdv A outer s H E) (fun cls d _ H => E cls d H) := takes_of rfl rfl rfl rfl
  exact (pss_one (ps_if (PW.pt (pw_or (pt_not (pt_val (pe_callB call_isi (by rfl) T.n_isinstance boot_isinstance (pa_cons (pv 0) (pa_cons (pe_b T.n_str boot_str) pa_nil))))) (pw_or (pt_cmpR o_gtI (pe_callB c_len (by rfl) T.n_len PySem.boot_len (pa_cons (pv 0) pa_nil)) (pv 2) (nomark _)) (pw_or1 (pt_cmpR (op_neD (hu64 hr)) (pe_lc (own := [("one", 3)]) (g := (gName 3)) (tt := tTest (tOp rNinG (tVar 3) (tSl rSlS (tC (.str "abcd")) tNoPart (tPart (tVar 1))))) rfl sc_check_word.nd (pi_str (pv 0)) (blkOk_by (N := ["word", "letters", "most", "one"]) (sc := defScope s_check_word) (by decide +kernel)) (fun _ _ _ _ _ => pg_name (i := 3) sc_check_word.nd rfl (by first | exact Or.inl rfl | exact Or.inr rfl)) (fun _ _ _ _ _ => pts_one (pt_cmpR o_ninG (pv 3) (pe_slice sl_str (pe_g T.k_SIGNS) po_none (po_some (pv 1))) (by with_unfolding_all rfl))) (fun _ _ _ _ _ => pv 3)) (pe_lst pa_nil) (nomark _)))))) (pss_one (ps_rz (T.e_NoWord (ok_NoWord_init T)) (hr.mono (by decide)) rfl tk (pv 0))) pss_nil))

end
end K67

set_option Elab.async false
set_option linter.all false
set_option maxRecDepth 100000
set_option maxHeartbeats 4000000
namespace K67
open PySem PySem.Spec PyProof.Rows L2 LX M67
local macro_rules | `(tactic| walk_at "hp") => `(tactic| first | assumption | exact upd_same | (refine up_new (by assumption) ?_; walk_at "hp") | (refine up_ne (by first | assumption | (exact Ne.symm (by assumption))) ?_; walk_at "hp") | (refine up_mut (by assumption) (by intro z; cases z) ?_; walk_at "hp"))
local macro_rules | `(tactic| walk_at "w1") => `(tactic| first
  | (with_reducible refine w_seq ?_) | (with_reducible refine w_asg ?_) | (with_reducible refine w_name ?_) | (with_reducible refine w_ret ?_) | (with_reducible refine w_drop ?_) | (with_reducible refine w_ifS ?_)
  | (with_reducible refine w_var (by with_unfolding_all exact rfl) ?_) | (with_reducible refine w_c ?_) | (with_reducible refine w_op ?_) | (with_reducible refine w_test ?_) | (with_reducible refine w_B ?_)
  | (with_reducible refine w_bl ?_) | (with_reducible refine w_cons ?_) | (with_reducible refine w_nil ?_) | (with_reducible refine w_cb ?_) | (with_reducible refine w_call ?_) | (with_reducible refine w_callS ?_)
  | (with_reducible refine w_addI ?_) | (with_reducible refine w_subI ?_) | (with_reducible refine w_ltI ?_) | (with_reducible refine w_leI ?_) | (with_reducible refine w_gtI ?_) | (with_reducible refine w_geI ?_)
  | (with_reducible refine w_tAnd ?_) | (with_reducible refine w_tOr ?_) | (with_reducible refine w_tNot ?_) | (with_reducible refine w_andV ?_) | (with_reducible refine w_orV ?_) | (with_reducible refine w_notV ?_) | (with_reducible refine w_if ?_)
  | (with_reducible refine w_un ?_) | (with_reducible refine w_neg ?_) | (with_reducible refine w_intI ?_) | (with_reducible refine w_intB ?_) | (with_reducible refine w_abs ?_)
  | (with_reducible refine w_eq (by with_unfolding_all exact rfl) ?_) | (with_reducible refine w_ne (by with_unfolding_all exact rfl) ?_) | (with_reducible refine w_isNone ?_) | (with_reducible refine w_notNone ?_)
  | (with_reducible refine w_tup ?_) | (with_reducible refine w_lst ?_) | (with_reducible refine w_sl ?_) | (with_reducible refine w_noPart ?_) | (with_reducible refine w_part ?_) | (with_reducible refine w_partI ?_)
  | (with_reducible refine w_fld0 ?_) | (with_reducible refine w_rz ?_)
  | (with_reducible refine w_next ?_) | (with_reducible refine w_brk ?_) | (with_reducible refine w_cont ?_) | (with_reducible refine w_retN ?_))
local macro_rules | `(tactic| walk_at "w") => `(tactic| repeat walk_at "w1")
local macro_rules | `(tactic| walk_at "u1") => `(tactic| first | walk_at "w1" | (with_reducible refine w_gsub ?_) | (with_reducible refine w_par ?_) | (with_reducible refine w_par3 ?_) | (with_reducible refine w_pr2 ?_) | (with_reducible refine w_pr3 ?_) | (with_reducible refine w_then ?_) | (with_reducible refine w_for ?_) | (with_reducible refine w_rng1 ?_) | (with_reducible refine w_enumS ?_) | (with_reducible refine w_iList ?_) | (with_reducible refine w_iTup ?_) | (with_reducible refine w_iStr ?_) | (with_reducible refine w_make ?_) | (with_reducible refine w_lc ?_) | (with_reducible refine w_iEnum ?_) | (with_reducible refine w_iEnumT ?_) | (with_reducible refine w_chain ?_) | (with_reducible refine w_bm ?_))
local macro_rules | `(tactic| walk_at "u") => `(tactic| repeat walk_at "u1")
section
variable {P : Program} {w : World} {base : Heap} {G : Gx}
/-! accepts -/
def TabF (R : List (List Nat)) (k : Nat) : Prop := 1 ≤ R.length ∧ R.length ≤ 2000 ∧ 1 ≤ k ∧ k ≤ 4 ∧ ∀ i, i < R.length → (R.getD i []).length = k ∧ ∀ x ∈ R.getD i [], x < R.length
def run (R : List (List Nat)) (s : Nat) (l : List Nat) : Nat := l.foldl (fun q c => at2 R q (c - 97)) s
theorem run_snoc (R : List (List Nat)) (s : Nat) (l : List Nat) (c : Nat) : run R s (l ++ [c]) = at2 R (run R s l) (c - 97) := by
  unfold run
  rw [List.foldl_append]
  rfl
theorem sg_lt {c k : Nat} (hk : k ≤ 4) (h : c ∈ sg k) : 97 ≤ c ∧ c - 97 < k ∧ c < 101 := by
  have : ∀ k, k ≤ 4 → ∀ c, c ∈ sg k → 97 ≤ c ∧ c - 97 < k ∧ c < 101 := by decide
  exact this k hk c h
theorem TabF.at2 {R : List (List Nat)} {k q c : Nat} (t : TabF R k) (hq : q < R.length) (hc : c < k) : at2 R q c < R.length := by
  obtain ⟨h1, h2⟩ := t.2.2.2.2 q hq
  exact h2 _ (getD_mem (by omega))
theorem TabF.run_lt {R : List (List Nat)} {k : Nat} (t : TabF R k) : ∀ (l : List Nat) (s : Nat), s < R.length → (∀ c ∈ l, c ∈ sg k) → run R s l < R.length
  | [], s, hs, _ => hs
  | c :: l, s, hs, h => t.run_lt l _ (t.at2 hs (sg_lt t.2.2.2.1 (h c List.mem_cons_self)).2.1) fun x hx => h x (List.mem_cons_of_mem _ hx)
theorem occ_sg {c : Nat} (h1 : 97 ≤ c) (h2 : c < 101) : Builtin.Str.occurrences ("abcd" : Str) ⟨#[c]⟩ 0 ("abcd" : Str).length 1 = [c - 97] := by
  have : c = 97 ∨ c = 98 ∨ c = 99 ∨ c = 100 := by omega
  rcases this with rfl | rfl | rfl | rfl <;> decide +kernel
theorem w_m1 {σ : L2.St} {H : Hp} {Q : VK} {r : V → List V → Hp → VK → Prop} {to te : TE} (h : to σ H fun x H1 => (∃ a, x = .str a) ∧ te σ H1 fun y H2 => r x [y] H2 Q) : tM1 r to te σ H Q := h
theorem inV_out (n : Int) (out : List Int) : inV (.int n) (out.map V.int) = decide (n ∈ out) := by
  induction out with
  | nil => rfl
  | cons o out ih =>
    have ih' : (out.map V.int).any (fun y => eqV y (.int n)) = decide (n ∈ out) := ih
    show (eqV (.int o) (.int n) || (out.map V.int).any fun y => eqV y (.int n)) = _
    have e : eqV (.int o) (.int n) = decide (n = o) := by
      show (o == n) = _
      by_cases h : n = o
      · subst h; simp
      · rw [decide_eq_false h]
        simpa using fun q => h q.symm
    rw [e, ih', ← Bool.decide_or]
    congr 1
    simp
theorem flat_out (out : List Int) : (out.map V.int).all flatV = true := by
  rw [List.all_map]
  exact List.all_eq_true.mpr fun _ _ => rfl
def sp_accepts (G : Gx) : Sp := fun vs H Q E => vs.length = 2 ∧ ∃ (x : Addr) (v : V) (R : List (List Nat)) (s k : Nat) (out : List Int), vs = [.ref x, v] ∧ ThingAt G H x R s out ∧ TabF R k ∧ s < R.length ∧
  ((∃ l, v = .str (S l) ∧ OkW l k ∧ ∀ H', Same H H' → Q (.bl (decide (((run R s l : Nat) : Int) ∈ out))) H') ∨ (BadW G H v k ∧ ∀ e H', H' e = some (.xd [("word", v)]) → Same H H' → E (.ref G.c_NoWord) (some e) H'))
def t_accepts (G : Gx) (W : WX) : TS :=
  tSeq (tAsg (tCall (sp_table_of G) [] E0 (tCons (tVar 0) tNil)) (gTup G.K 3 (gCons (gName 3) (gCons (gName 4) (gCons (gName 5) gNil)))))
  (tSeq (tDrop (tCallS (sp_check_word G) (WE W) (tCons (tVar 1) (tCons (tCB (LX.rLen G.K) (tCons (tOp (rIxT G.K) (tVar 3) (tC (.int 0))) tNil)) (tCons (tC (.int 300)) tNil)))))
  (tSeq (tFor (iStr (tVar 1)) (gName 2) (tAsg (tOp (rIxT G.K) (tOp (rIxT G.K) (tVar 3) (tVar 4)) (tM1 rSIndex (tC (.str "abcd")) (tVar 2))) (gName 4)))
  (tRet (tOp (rIn G.K false) (tVar 4) (tVar 5)))))
theorem TyX.same {H H' : Hp} {v : V} {t : Value} (h : TyX G.K H v t) (s : Same H H') : TyX G.K H' v t := by
  cases h with
  | base h =>
    refine .base ?_
    cases h with
    | non => exact .non
    | bl x => exact .bl x
    | int i => exact .int i
    | str x => exact .str x
    | flt x => exact .flt x
    | lst e => exact .lst (s _ _ e)
    | frz e => exact .frz (s _ _ e)
    | tup e => exact .tup (s _ _ e)
    | dK e => exact .dK (s _ _ e)
    | dT e => exact .dT (s _ _ e)
    | ins e a b c d f => exact .ins (s _ _ e) a b c d f
  | byt b => exact .byt b
  | set e => exact .set (s _ _ e)
  | kList a b => exact .kList a b
  | kTuple a b => exact .kTuple a b
  | kDict a b => exact .kDict a b
  | fTuple e => exact .fTuple (s _ _ e)
  | fDict e => exact .fDict (s _ _ e)
theorem BadW.same {H H' : Hp} {v : V} {k : Nat} (h : BadW G H v k) (s : Same H H') : BadW G H' v k := h.imp (fun ⟨t, ty, hk⟩ => ⟨t, TyX.same ty s, hk⟩) id
theorem pure_accepts (T : Txt G) (vs : List V) (H : Hp) (Q : VK) (E : XK) (h : sp_accepts G vs H Q E) : t_accepts G (fun cls d _ H => E cls d H) { nx := fun _ H' => Q .non H', rt := Q } (start ["thing", "word", "one", "rows", "state", "accepted"] vs) H := by
  obtain ⟨_, x, v, R, s, k, out, rfl, th, tf, hs, h⟩ := h
  obtain ⟨h1, h2, k1, k4, hr⟩ := id tf
  unfold t_accepts
  walk_at "u"
  refine ⟨rfl, x, R, s, out, rfl, th, fun q H1 z s1 => ?_⟩
  obtain ⟨p, r, hq, mp, hro⟩ := z
  refine w_gT3 hq ?_
  obtain ⟨ps, hp, hl, hrow⟩ := mp
  walk_at "u"
  refine w_ixT (SqT.of hp) (by exact refs_at (i := 0) (by omega)) ?_
  walk_at "u"
  refine w_lenT (SqT.of (hrow 0 (by omega))) ?_
  rw [IL_len, (hr 0 (by omega)).1]
  refine ⟨rfl, v, k, rfl, k4, ?_⟩
  rcases h with ⟨l, rfl, ok, kQ⟩ | ⟨bad, kE⟩
  rotate_left
  · exact .inr ⟨bad.same s1, fun e H2 he s2 => kE e H2 he (s1.trans s2)⟩
  refine .inl ⟨l, rfl, ok, fun H2 s2 => ?_⟩
  walk_at "u"
  refine ⟨_, rfl, ?_⟩
  have s12 := s1.trans s2
  refine for_fix (fix_str (S l)) (fun i σ H' => (∃ o : Option V, σ = [some (.ref x), some (.str (S l)), o, some (.ref p), some (.int (run R s (l.take i) : Nat)), some (.ref r)]) ∧ Same H1 H') ⟨⟨_, rfl⟩, s2⟩ (fun i σ Ha hi z => ?_) (fun σ Ha z => ?_)
  · obtain ⟨⟨o, rfl⟩, sa⟩ := z
    have hi' : i < l.length := by
      have : (S l).cps.size = l.length := S_len l
      omega
    rw [S_get hi']
    have hm : l.getD i 0 ∈ l := getD_mem hi'
    obtain ⟨c1, c2, c3⟩ := sg_lt k4 (ok.2 _ hm)
    have hrun : run R s (l.take i) < R.length := tf.run_lt _ _ hs fun c hc => ok.2 c (List.mem_of_mem_take hc)
    walk_at "u"
    refine w_ixT (SqT.of (sa _ _ hp)) (refs_at (by omega)) ?_
    with_reducible refine w_m1 ?_
    walk_at "u"
    refine ⟨⟨_, rfl⟩, ?_⟩
    walk_at "u"
    refine ⟨_, _, _, _, rfl, rfl, occ_sg c1 c3, ?_⟩
    refine w_ixT (SqT.of (sa _ _ (hrow _ hrun))) (IL_at (by rw [(hr _ hrun).1]; exact c2)) ?_
    walk_at "u"
    refine ⟨⟨some (.str ⟨#[l.getD i 0]⟩), ?_⟩, sa⟩
    rw [take_succ_of (d := 0) hi', run_snoc]
    rfl
  · obtain ⟨⟨o, rfl⟩, sa⟩ := z
    have e : (S l).cps.size = l.length := S_len l
    rw [e, List.take_length]
    walk_at "u"
    refine w_inT (SqT.of (sa _ _ hro)) rfl (flat_out out) ?_
    rw [if_neg Bool.false_ne_true, inV_out]
    exact kQ _ (s1.trans sa)
theorem ok_accepts (T : Txt G) : FnOk P w G.K G.mg base (L2.CX P w) 4 G.f_accepts G.d_accepts ["thing", "word"] (sp_accepts G) := by
  refine T.F_accepts.okX sc_accepts (fun _ _ _ _ h => h.1) (fun cdv A outer s H vs Q E hr h => ⟨t_accepts G (fun cls d _ H => E cls d H), ?_, pure_accepts T vs H Q E h⟩)
  have tk : Takes (cxOf (L2.CX P w) P w G.K G.mg base ["thing", "word", "one", "rows", "state", "accepted"] "accepts" (defScope s_accepts) G.f_accepts cdv A outer s H E) (fun cls d _ H => E cls d H) := takes_of rfl rfl rfl rfl
  exact (pss_cons (ps_asg (pe_call (ok_table_of T) (hr.mono (by decide)) rfl T.g_table_of T.F_table_of.kp T.b_table_of .nil passL (pa_cons (pv 0) pa_nil)) (pg_tup rfl (pgs_cons (pg_name (i := 3) sc_accepts.nd rfl (by first | exact Or.inl rfl | exact Or.inr rfl)) (pgs_cons (pg_name (i := 4) sc_accepts.nd rfl (by first | exact Or.inl rfl | exact Or.inr rfl)) (pgs_cons (pg_name (i := 5) sc_accepts.nd rfl (by first | exact Or.inl rfl | exact Or.inr rfl)) pgs_nil)))))
    (pss_cons (ps_expr (pe_callS (ok_check_word T) (hr.mono (by decide)) rfl T.g_check_word T.F_check_word.kp T.b_check_word (fun σ => passAt tk σ) (pa_cons (pv 1) (pa_cons (pe_callB c_len (by rfl) T.n_len PySem.boot_len (pa_cons (pe_ix ix_tup (pv 3) pe_int (fun _ _ => rfl)) pa_nil)) (pa_cons (pe_g T.k_MOST_SIGNS) pa_nil)))))
    (pss_cons (ps_for (passes_of rfl) rfl (pi_str (pv 1)) (pg_name (i := 2) sc_accepts.nd rfl (by first | exact Or.inl rfl | exact Or.inr rfl)) (pss_one (ps_set (i := 4) sc_accepts.nd rfl (by first | exact Or.inl rfl | exact Or.inr rfl) (pe_ix ix_tup (pe_ix ix_tup (pv 3) (pv 4) (fun _ _ => rfl)) (pe_m1 PySem.F.slot_str_index PySem.F.type_str_index m_sindex (pe_g T.k_SIGNS) (pv 2)) (fun _ _ => rfl)))))
    (pss_one (ps_ret (pe_cmpR op_in_seq (pv 4) (pv 5) (by with_unfolding_all rfl)))))))

end
end K67

set_option Elab.async false
set_option linter.all false
set_option maxRecDepth 100000
set_option maxHeartbeats 4000000
namespace K67
open PySem PySem.Spec PyProof.Rows L2 LX M67
local macro_rules | `(tactic| walk_at "hp") => `(tactic| first | assumption | exact upd_same | (refine up_new (by assumption) ?_; walk_at "hp") | (refine up_ne (by first | assumption | (exact Ne.symm (by assumption))) ?_; walk_at "hp") | (refine up_mut (by assumption) (by intro z; cases z) ?_; walk_at "hp"))
local macro_rules | `(tactic| walk_at "w1") => `(tactic| first
  | (with_reducible refine w_seq ?_) | (with_reducible refine w_asg ?_) | (with_reducible refine w_name ?_) | (with_reducible refine w_ret ?_) | (with_reducible refine w_drop ?_) | (with_reducible refine w_ifS ?_)
  | (with_reducible refine w_var (by with_unfolding_all exact rfl) ?_) | (with_reducible refine w_c ?_) | (with_reducible refine w_op ?_) | (with_reducible refine w_test ?_) | (with_reducible refine w_B ?_)
  | (with_reducible refine w_bl ?_) | (with_reducible refine w_cons ?_) | (with_reducible refine w_nil ?_) | (with_reducible refine w_cb ?_) | (with_reducible refine w_call ?_) | (with_reducible refine w_callS ?_)
  | (with_reducible refine w_addI ?_) | (with_reducible refine w_subI ?_) | (with_reducible refine w_ltI ?_) | (with_reducible refine w_leI ?_) | (with_reducible refine w_gtI ?_) | (with_reducible refine w_geI ?_)
  | (with_reducible refine w_tAnd ?_) | (with_reducible refine w_tOr ?_) | (with_reducible refine w_tNot ?_) | (with_reducible refine w_andV ?_) | (with_reducible refine w_orV ?_) | (with_reducible refine w_notV ?_) | (with_reducible refine w_if ?_)
  | (with_reducible refine w_un ?_) | (with_reducible refine w_neg ?_) | (with_reducible refine w_intI ?_) | (with_reducible refine w_intB ?_) | (with_reducible refine w_abs ?_)
  | (with_reducible refine w_eq (by with_unfolding_all exact rfl) ?_) | (with_reducible refine w_ne (by with_unfolding_all exact rfl) ?_) | (with_reducible refine w_isNone ?_) | (with_reducible refine w_notNone ?_)
  | (with_reducible refine w_tup ?_) | (with_reducible refine w_lst ?_) | (with_reducible refine w_sl ?_) | (with_reducible refine w_noPart ?_) | (with_reducible refine w_part ?_) | (with_reducible refine w_partI ?_)
  | (with_reducible refine w_fld0 ?_) | (with_reducible refine w_rz ?_)
  | (with_reducible refine w_next ?_) | (with_reducible refine w_brk ?_) | (with_reducible refine w_cont ?_) | (with_reducible refine w_retN ?_))
local macro_rules | `(tactic| walk_at "w") => `(tactic| repeat walk_at "w1")
local macro_rules | `(tactic| walk_at "u1") => `(tactic| first | walk_at "w1" | (with_reducible refine w_gsub ?_) | (with_reducible refine w_par ?_) | (with_reducible refine w_par3 ?_) | (with_reducible refine w_pr2 ?_) | (with_reducible refine w_pr3 ?_) | (with_reducible refine w_then ?_) | (with_reducible refine w_for ?_) | (with_reducible refine w_rng1 ?_) | (with_reducible refine w_enumS ?_) | (with_reducible refine w_iList ?_) | (with_reducible refine w_iTup ?_) | (with_reducible refine w_iStr ?_) | (with_reducible refine w_make ?_) | (with_reducible refine w_lc ?_) | (with_reducible refine w_iEnum ?_) | (with_reducible refine w_iEnumT ?_) | (with_reducible refine w_chain ?_) | (with_reducible refine w_bm ?_))
local macro_rules | `(tactic| walk_at "u") => `(tactic| repeat walk_at "u1")
section
variable {P : Program} {w : World} {base : Heap} {G : Gx}
/-! the law's plan: table, first state, marked states -/
def PlanAt (H : Hp) (q : Addr) (R : List (List Nat)) (s : Nat) (ms : List Nat) : Prop := ∃ p a : Addr, H q = some (.tup [.ref p, .int s, .ref a]) ∧ Mat .lst .lst H p R ∧ H a = some (.lst (IL ms))
theorem PlanAt.keep {H H' : Hp} {q : Addr} {R : List (List Nat)} {s : Nat} {ms : List Nat} (h : PlanAt H q R s ms) (t : Same H H') : PlanAt H' q R s ms := by
  obtain ⟨p, a, h1, h2, h3⟩ := h
  exact ⟨p, a, t _ _ h1, h2.same t, t _ _ h3⟩
def sp__law_led (G : Gx) : Sp := fun vs H Q _ => vs.length = 2 ∧ ∃ (q : Addr) (R : List (List Nat)) (s k : Nat) (ms l : List Nat), vs = [.ref q, .str (S l)] ∧ PlanAt H q R s ms ∧ TabF R k ∧ s < R.length ∧ (∀ c ∈ l, c ∈ sg k) ∧ Q (.int (run R s l : Nat)) H
def t__law_led (G : Gx) (W : WX) : TS :=
  tSeq (tAsg (tVar 0) (gTup G.K 3 (gCons (gName 3) (gCons (gName 4) (gCons (gName 5) gNil)))))
  (tSeq (tFor (iStr (tVar 1)) (gName 2) (tAsg (tOp (rIxL G.K) (tOp (rIxL G.K) (tVar 3) (tVar 4)) (tM1 rSIndex (tC (.str "abcd")) (tVar 2))) (gName 4)))
  (tRet (tVar 4)))
theorem pure__law_led (T : Txt G) (vs : List V) (H : Hp) (Q : VK) (E : XK) (h : sp__law_led G vs H Q E) : t__law_led G (fun cls d _ H => E cls d H) { nx := fun _ H' => Q .non H', rt := Q } (start ["_law_plan_here", "_law_word", "_law_sign", "_law_moves_here", "_law_state", "_law_marked"] vs) H := by
  obtain ⟨_, q, R, s, k, ms, l, rfl, ⟨p, a, hq, mp, ha⟩, tf, hs, ok, kQ⟩ := h
  obtain ⟨h1, h2, k1, k4, hr⟩ := id tf
  obtain ⟨ps, hp, hl, hrow⟩ := mp
  unfold t__law_led
  walk_at "u"
  refine w_gT3 hq ?_
  walk_at "u"
  refine ⟨_, rfl, ?_⟩
  refine for_fix (fix_str (S l)) (fun i σ H' => (∃ o : Option V, σ = [some (.ref q), some (.str (S l)), o, some (.ref p), some (.int (run R s (l.take i) : Nat)), some (.ref a)]) ∧ H' = H) ⟨⟨_, rfl⟩, rfl⟩ (fun i σ Ha hi z => ?_) (fun σ Ha z => ?_)
  · obtain ⟨⟨o, rfl⟩, rfl⟩ := z
    have hi' : i < l.length := by
      have : (S l).cps.size = l.length := S_len l
      omega
    rw [S_get hi']
    obtain ⟨c1, c2, c3⟩ := sg_lt k4 (ok _ (getD_mem hi'))
    have hrun : run R s (l.take i) < R.length := tf.run_lt _ _ hs fun c hc => ok c (List.mem_of_mem_take hc)
    walk_at "u"
    refine w_ixL (SqL.of hp) (refs_at (by omega)) ?_
    with_reducible refine w_m1 ?_
    walk_at "u"
    refine ⟨⟨_, rfl⟩, ?_⟩
    walk_at "u"
    refine ⟨_, _, _, _, rfl, rfl, occ_sg c1 c3, ?_⟩
    refine w_ixL (SqL.of (hrow _ hrun)) (IL_at (by rw [(hr _ hrun).1]; exact c2)) ?_
    walk_at "u"
    refine ⟨⟨some (.str ⟨#[l.getD i 0]⟩), ?_⟩, rfl⟩
    rw [take_succ_of (d := 0) hi', run_snoc]
    rfl
  · obtain ⟨⟨o, rfl⟩, rfl⟩ := z
    have e : (S l).cps.size = l.length := S_len l
    rw [e, List.take_length]
    walk_at "u"
    exact kQ
theorem ok__law_led (T : Txt G) : FnOk P w G.K G.mg base (L2.CX P w) 1 G.f__law_led G.d__law_led ["_law_plan_here", "_law_word"] (sp__law_led G) := by
  refine T.F__law_led.okX sc__law_led (fun _ _ _ _ h => h.1) (fun cdv A outer s H vs Q E hr h => ⟨t__law_led G (fun cls d _ H => E cls d H), ?_, pure__law_led T vs H Q E h⟩)
  have tk : Takes (cxOf (L2.CX P w) P w G.K G.mg base ["_law_plan_here", "_law_word", "_law_sign", "_law_moves_here", "_law_state", "_law_marked"] "_law_led" (defScope s__law_led) G.f__law_led cdv A outer s H E) (fun cls d _ H => E cls d H) := takes_of rfl rfl rfl rfl
  exact (pss_cons (ps_asg (pv 0) (pg_tup rfl (pgs_cons (pg_name (i := 3) sc__law_led.nd rfl (by first | exact Or.inl rfl | exact Or.inr rfl)) (pgs_cons (pg_name (i := 4) sc__law_led.nd rfl (by first | exact Or.inl rfl | exact Or.inr rfl)) (pgs_cons (pg_name (i := 5) sc__law_led.nd rfl (by first | exact Or.inl rfl | exact Or.inr rfl)) pgs_nil)))))
    (pss_cons (ps_for (passes_of rfl) rfl (pi_str (pv 1)) (pg_name (i := 2) sc__law_led.nd rfl (by first | exact Or.inl rfl | exact Or.inr rfl)) (pss_one (ps_set (i := 4) sc__law_led.nd rfl (by first | exact Or.inl rfl | exact Or.inr rfl) (pe_ix ix_list (pe_ix ix_list (pv 3) (pv 4) (fun _ _ => rfl)) (pe_m1 PySem.F.slot_str_index PySem.F.type_str_index m_sindex pe_str (pv 2)) (fun _ _ => rfl)))))
    (pss_one (ps_ret (pv 4)))))
def sp__law_has (G : Gx) : Sp := fun vs H Q _ => vs.length = 2 ∧ ∃ (q : Addr) (R : List (List Nat)) (s k : Nat) (ms l : List Nat), vs = [.ref q, .str (S l)] ∧ PlanAt H q R s ms ∧ TabF R k ∧ s < R.length ∧ (∀ c ∈ l, c ∈ sg k) ∧ Q (.bl (decide (run R s l ∈ ms))) H
def t__law_has (G : Gx) (W : WX) : TS :=
  tRet (tOp (rIn G.K false) (tCall (sp__law_led G) [] E0 (tCons (tVar 0) (tCons (tVar 1) tNil))) (tOp (rIxT G.K) (tVar 0) (tC (.int 2))))
theorem inV_IL (n : Nat) (ms : List Nat) : inV (.int (n : Nat)) (IL ms) = decide (n ∈ ms) := by
  rw [IL_ints, inV_out]
  refine decide_eq_decide.mpr ⟨fun h => ?_, fun h => List.mem_map.mpr ⟨n, h, rfl⟩⟩
  obtain ⟨m, hm, e⟩ := List.mem_map.mp h
  have : m = n := by omega
  exact this ▸ hm
theorem flat_IL (ms : List Nat) : (IL ms).all flatV = true := by
  rw [IL_ints]
  exact flat_out _
theorem pure__law_has (T : Txt G) (vs : List V) (H : Hp) (Q : VK) (E : XK) (h : sp__law_has G vs H Q E) : t__law_has G (fun cls d _ H => E cls d H) { nx := fun _ H' => Q .non H', rt := Q } (start ["_law_plan_here", "_law_word"] vs) H := by
  obtain ⟨_, q, R, s, k, ms, l, rfl, pl, tf, hs, ok, kQ⟩ := h
  have pl0 := pl
  obtain ⟨p, a, hq, mp, ha⟩ := pl
  unfold t__law_has
  walk_at "u"
  refine ⟨rfl, q, R, s, k, ms, l, rfl, pl0, tf, hs, ok, ?_⟩
  walk_at "u"
  refine w_ixT (SqT.of hq) (by exact rfl) ?_
  refine w_inL (SqL.of ha) rfl (flat_IL ms) ?_
  rw [if_neg Bool.false_ne_true, inV_IL]
  exact kQ
theorem ok__law_has (T : Txt G) : FnOk P w G.K G.mg base (L2.CX P w) 2 G.f__law_has G.d__law_has ["_law_plan_here", "_law_word"] (sp__law_has G) := by
  refine T.F__law_has.okX sc__law_has (fun _ _ _ _ h => h.1) (fun cdv A outer s H vs Q E hr h => ⟨t__law_has G (fun cls d _ H => E cls d H), ?_, pure__law_has T vs H Q E h⟩)
  have tk : Takes (cxOf (L2.CX P w) P w G.K G.mg base ["_law_plan_here", "_law_word"] "_law_has" (defScope s__law_has) G.f__law_has cdv A outer s H E) (fun cls d _ H => E cls d H) := takes_of rfl rfl rfl rfl
  exact (pss_one (ps_ret (pe_cmpR op_in_seq (pe_call (ok__law_led T) (hr.mono (by decide)) rfl T.g__law_led T.F__law_led.kp T.b__law_led .nil passL (pa_cons (pv 0) (pa_cons (pv 1) pa_nil))) (pe_ix ix_tup (pv 0) pe_int (fun _ _ => rfl)) (by with_unfolding_all rfl))))

end
end K67

set_option Elab.async false
set_option linter.all false
set_option maxRecDepth 100000
set_option maxHeartbeats 4000000
namespace K67
open PySem PySem.Spec PyProof.Rows L2 LX M67
local macro_rules | `(tactic| walk_at "hp") => `(tactic| first | assumption | exact upd_same | (refine up_new (by assumption) ?_; walk_at "hp") | (refine up_ne (by first | assumption | (exact Ne.symm (by assumption))) ?_; walk_at "hp") | (refine up_mut (by assumption) (by intro z; cases z) ?_; walk_at "hp"))
local macro_rules | `(tactic| walk_at "w1") => `(tactic| first
  | (with_reducible refine w_seq ?_) | (with_reducible refine w_asg ?_) | (with_reducible refine w_name ?_) | (with_reducible refine w_ret ?_) | (with_reducible refine w_drop ?_) | (with_reducible refine w_ifS ?_)
  | (with_reducible refine w_var (by with_unfolding_all exact rfl) ?_) | (with_reducible refine w_c ?_) | (with_reducible refine w_op ?_) | (with_reducible refine w_test ?_) | (with_reducible refine w_B ?_)
  | (with_reducible refine w_bl ?_) | (with_reducible refine w_cons ?_) | (with_reducible refine w_nil ?_) | (with_reducible refine w_cb ?_) | (with_reducible refine w_call ?_) | (with_reducible refine w_callS ?_)
  | (with_reducible refine w_addI ?_) | (with_reducible refine w_subI ?_) | (with_reducible refine w_ltI ?_) | (with_reducible refine w_leI ?_) | (with_reducible refine w_gtI ?_) | (with_reducible refine w_geI ?_)
  | (with_reducible refine w_tAnd ?_) | (with_reducible refine w_tOr ?_) | (with_reducible refine w_tNot ?_) | (with_reducible refine w_andV ?_) | (with_reducible refine w_orV ?_) | (with_reducible refine w_notV ?_) | (with_reducible refine w_if ?_)
  | (with_reducible refine w_un ?_) | (with_reducible refine w_neg ?_) | (with_reducible refine w_intI ?_) | (with_reducible refine w_intB ?_) | (with_reducible refine w_abs ?_)
  | (with_reducible refine w_eq (by with_unfolding_all exact rfl) ?_) | (with_reducible refine w_ne (by with_unfolding_all exact rfl) ?_) | (with_reducible refine w_isNone ?_) | (with_reducible refine w_notNone ?_)
  | (with_reducible refine w_tup ?_) | (with_reducible refine w_lst ?_) | (with_reducible refine w_sl ?_) | (with_reducible refine w_noPart ?_) | (with_reducible refine w_part ?_) | (with_reducible refine w_partI ?_)
  | (with_reducible refine w_fld0 ?_) | (with_reducible refine w_rz ?_)
  | (with_reducible refine w_next ?_) | (with_reducible refine w_brk ?_) | (with_reducible refine w_cont ?_) | (with_reducible refine w_retN ?_))
local macro_rules | `(tactic| walk_at "w") => `(tactic| repeat walk_at "w1")
local macro_rules | `(tactic| walk_at "u1") => `(tactic| first | walk_at "w1" | (with_reducible refine w_gsub ?_) | (with_reducible refine w_par ?_) | (with_reducible refine w_par3 ?_) | (with_reducible refine w_pr2 ?_) | (with_reducible refine w_pr3 ?_) | (with_reducible refine w_then ?_) | (with_reducible refine w_for ?_) | (with_reducible refine w_rng1 ?_) | (with_reducible refine w_enumS ?_) | (with_reducible refine w_iList ?_) | (with_reducible refine w_iTup ?_) | (with_reducible refine w_iStr ?_) | (with_reducible refine w_make ?_) | (with_reducible refine w_lc ?_) | (with_reducible refine w_iEnum ?_) | (with_reducible refine w_iEnumT ?_) | (with_reducible refine w_chain ?_) | (with_reducible refine w_bm ?_))
local macro_rules | `(tactic| walk_at "u") => `(tactic| repeat walk_at "u1")
section
variable {P : Program} {w : World} {base : Heap} {G : Gx}
/-! all words -/
def WordsAt (H : Hp) (p : Addr) (ws : List (List Nat)) : Prop := H p = some (.lst (ws.map fun l => .str (S l)))
def sp__law_all_words (G : Gx) : Sp := fun vs H Q _ => vs.length = 2 ∧ ∃ k m : Nat, vs = [.int k, .int m] ∧ 1 ≤ k ∧ k ≤ 4 ∧ m ≤ 9 ∧ ∀ (ws : List (List Nat)) p H', H p = none → WordsAt H' p ws → (∀ l ∈ ws, l.length ≤ 9 ∧ ∀ c ∈ l, c ∈ sg k) → ws.length ≤ 4000000 → Same H H' → Q (.ref p) H'
def t__law_all_words (G : Gx) (W : WX) : TS :=
  tSeq (tPar 3 4 (tCons (tLst (tCons (tC (.str "")) tNil)) (tCons (tLst (tCons (tC (.str "")) tNil)) tNil)))
  (tSeq (tFor (iRng1 (tCons (tVar 1) tNil)) (gName 2) (tSeq (tAsg (tLst tNil) (gName 5))
  (tSeq (tFor (iList G.K (tVar 4)) (gName 6) (tDrop (tBM G.K "list" rExtend (tVar 5) (tCons (tLc (iStr (tSl rSlS (tC (.str "abcd")) tNoPart (tPart (tVar 0)))) (gName 7) tYes (tOp rAddS (tVar 6) (tVar 7)) [7]) tNil))))
  (tPar 3 4 (tCons (tOp (rCatS G.K) (tVar 3) (tVar 5)) (tCons (tVar 5) tNil))))))
  (tRet (tVar 3)))
theorem e_emp : ("" : Str) = S [] := by decide +kernel
theorem sg_len {k : Nat} (hk : k ≤ 4) : (sg k).length = k := by
  have : ∀ k, k ≤ 4 → (sg k).length = k := by decide
  exact this k hk
theorem pow_le (k i : Nat) (hk : k ≤ 4) (hi : i ≤ 9) : k ^ i ≤ 262144 := Nat.le_trans (Nat.pow_le_pow_left hk i) (Nat.le_trans (Nat.pow_le_pow_right (by decide) hi) (by decide))
theorem pure__law_all_words (T : Txt G) (vs : List V) (H : Hp) (Q : VK) (E : XK) (h : sp__law_all_words G vs H Q E) : t__law_all_words G (fun cls d _ H => E cls d H) { nx := fun _ H' => Q .non H', rt := Q } (start ["_law_letters", "_law_most", "_law_turn", "_law_found", "_law_ends", "_law_later", "_law_word", "_law_sign"] vs) H := by
  obtain ⟨_, k, m, rfl, k1, k4, hm, kQ⟩ := h
  unfold t__law_all_words
  walk_at "u"
  refine ⟨by show 1 ≤ sizeLine; decide, fun a ha => ?_⟩
  walk_at "u"
  refine ⟨by show 1 ≤ sizeLine; decide, fun b hb => ?_⟩
  walk_at "u"
  rw [e_emp]
  rw [e_emp] at hb
  refine ⟨_, rfl, by omega, by omega, ?_⟩
  have em : (m : Int).toNat = m := by omega
  rw [em]
  refine for_fix (fix_rng 0 m) (fun i σ H' => ∃ (a b : Addr) (fs es : List (List Nat)) (x y z u : Option V), σ = [some (.int k), some (.int m), x, some (.ref a), some (.ref b), y, z, u] ∧ H a = none ∧ H b = none ∧ WordsAt H' a fs ∧ WordsAt H' b es ∧
      (∀ l ∈ fs, l.length ≤ i ∧ ∀ c ∈ l, c ∈ sg k) ∧ (∀ l ∈ es, l.length ≤ i ∧ ∀ c ∈ l, c ∈ sg k) ∧ es.length ≤ k ^ i ∧ fs.length ≤ (i + 1) * 262144 ∧ Same H H')
    ⟨a, b, [[]], [[]], _, _, _, _, rfl, ha, none_old (same_new (Same.refl H) ha) hb, up_new hb upd_same, upd_same, by simp, by simp, by simp, by show 1 ≤ _; omega, same_new (same_new (Same.refl H) ha) hb⟩ (fun i σ Ha hi z => ?_) (fun σ Ha z => ?_)
  rotate_left
  · obtain ⟨a, b, fs, es, x, y, z, u, rfl, na, nb, wa, wb, hf, he, le, lf, s⟩ := z
    walk_at "u"
    have l0 : ∀ l ∈ fs, l.length ≤ 9 ∧ ∀ c ∈ l, c ∈ sg k := fun l hl => ⟨Nat.le_trans (hf l hl).1 hm, (hf l hl).2⟩
    have l1 : (m + 1) * 262144 ≤ 10 * 262144 := Nat.mul_le_mul_right _ (by omega)
    exact kQ fs a _ na wa l0 (by omega) s
  obtain ⟨a, b, fs, es, x, y, z, u, rfl, na, nb, wa, wb, hf, he, le, lf, s⟩ := z
  have hpow := pow_le k (i + 1) k4 (by omega)
  walk_at "u"
  refine ⟨by show 0 ≤ sizeLine; decide, fun c hc => ?_⟩
  walk_at "u"
  have nc : H c = none := none_old s hc
  have s1 : Same H (upd Ha c (.lst [])) := same_new s hc
  have wa1 : WordsAt (upd Ha c (.lst [])) a fs := up_new hc wa
  have wb1 : WordsAt (upd Ha c (.lst [])) b es := up_new hc wb
  have ca : c ≠ a := (ne_of_none wa hc).symm
  have cb : c ≠ b := (ne_of_none wb hc).symm
  have c1 : WordsAt (upd Ha c (.lst [])) c [] := upd_same
  generalize upd Ha c (.lst []) = Hb at s1 wa1 wb1 c1
  refine ⟨_, rfl, ⟨_, SqL.of wb1⟩, ?_⟩
  have wlen : ∀ ws : List (List Nat), (ws.map fun l => V.str (S l)).length = ws.length := fun ws => List.length_map _
  refine for_fixR (fixR_list G.K b (es.map fun l => .str (S l))) (fun j σ H' => ∃ (ls : List (List Nat)) (x z u : Option V), σ = [some (.int k), some (.int m), x, some (.ref a), some (.ref b), some (.ref c), z, u] ∧ WordsAt H' a fs ∧ WordsAt H' b es ∧ WordsAt H' c ls ∧ ls.length = j * k ∧
      (∀ l ∈ ls, l.length ≤ i + 1 ∧ ∀ c ∈ l, c ∈ sg k) ∧ Same H H') (fun _ _ _ z => by obtain ⟨_, _, _, _, _, _, wb, _⟩ := z; exact SqL.of wb)
    ⟨[], _, _, _, rfl, wa1, wb1, c1, by simp, (fun l hl => nomatch hl), s1⟩ (fun j σ Hc hj z => ?_) (fun σ Hc z => ?_)
  · obtain ⟨ls, x, z, u, rfl, wa2, wb2, wc2, ll, hls, s2⟩ := z
    rw [wlen] at hj
    have hje : j < k ^ i := by omega
    have ew : (es.map fun l => V.str (S l)).getD j .non = .str (S (es.getD j [])) := by
      rw [List.getD_eq_getElem?_getD, List.getElem?_map, List.getD_eq_getElem?_getD, List.getElem?_eq_getElem hj]
      rfl
    rw [ew]
    have hw := he _ (show es.getD j [] ∈ es by rw [List.getD_eq_getElem?_getD, List.getElem?_eq_getElem hj]; exact List.getElem_mem hj)
    generalize es.getD j [] = wd at hw
    walk_at "u"
    refine ⟨ty_list (SqL.of wc2), ?_⟩
    walk_at "u"
    refine w_slS (by decide +kernel) ?_
    rw [cut_sg]
    refine ⟨_, rfl, fun Dl hD => ?_⟩
    have zs : (S (sg k)).cps.size = k := by
      have : (S (sg k)).cps.size = (sg k).length := S_len _
      rw [this, sg_len k4]
    refine lc_fix (fix_str (S (sg k))) (fun q H' => Same Hc H' ∧ H' Dl = some (.lst (((sg k).take q).map fun c => .str (S (wd ++ [c]))))) ⟨same_new (Same.refl Hc) hD, upd_same⟩ (fun q Hx hq zz => ⟨rfl, w_yes ?_⟩) (fun Hx zz => ?_)
    · obtain ⟨sx, ex⟩ := zz
      rw [zs] at hq
      rw [S_get (by rw [sg_len k4]; exact hq)]
      walk_at "u"
      refine w_addS (line1000 (by rw [S_len]; show _ + 1 ≤ _; omega)) ?_
      have ea : S wd ++ (⟨#[(sg k).getD q 0]⟩ : Str) = S (wd ++ [(sg k).getD q 0]) := S_app wd [(sg k).getD q 0]
      rw [ea]
      refine ⟨_, ex, by rw [List.length_map, List.length_take, sizeLine_eq]; omega, same_mut sx hD, ?_⟩
      rw [upd_same, take_succ_of (d := 0) (by rw [sg_len k4]; exact hq), List.map_append]
      rfl
    · obtain ⟨sx, ex⟩ := zz
      rw [zs, show (sg k).take k = sg k from List.take_of_length_le (by rw [sg_len k4]; exact Nat.le_refl _)] at ex
      have hc2 := sx _ _ wc2
      have cD : c ≠ Dl := ne_of_none wc2 hD
      have jk : j * k + k ≤ k ^ (i + 1) := by
        rw [Nat.pow_succ]
        have := Nat.mul_le_mul_right k (show j + 1 ≤ k ^ i by omega)
        rw [Nat.add_mul, Nat.one_mul] at this
        exact this
      refine ⟨c, Dl, _, _, rfl, rfl, hc2, ex, by rw [wlen, List.length_map, ll, sg_len k4, sizeLine_eq]; omega, ?_⟩
      walk_at "u"
      refine ⟨ls ++ (sg k).map (fun c => wd ++ [c]), _, _, _, rfl, ?_, ?_, ?_, ?_, fun l hl => ?_, same_mut (s2.trans sx) nc⟩
      · show upd _ c _ a = _
        rw [upd_ne ca.symm]; exact sx _ _ wa2
      · show upd _ c _ b = _
        rw [upd_ne cb.symm]; exact sx _ _ wb2
      · show upd _ c _ c = _
        rw [upd_same, List.map_append, List.map_map]
        rfl
      · rw [List.length_append, ll, List.length_map, sg_len k4, Nat.add_mul, Nat.one_mul]
      · rcases List.mem_append.mp hl with hl | hl
        · exact hls l hl
        · obtain ⟨c', hc', rfl⟩ := List.mem_map.mp hl
          refine ⟨by rw [List.length_append]; exact Nat.add_le_add_right hw.1 1, fun d hd => ?_⟩
          rcases List.mem_append.mp hd with hd | hd
          · exact hw.2 d hd
          · have : d = c' := by simpa using hd
            exact this ▸ hc'
  · obtain ⟨ls, x, z, u, rfl, wa2, wb2, wc2, ll, hls, s2⟩ := z
    rw [wlen] at ll
    have lk : ls.length ≤ k ^ (i + 1) := by
      rw [ll, Nat.pow_succ]
      exact Nat.mul_le_mul_right k le
    have l2 : (i + 1) * 262144 + 262144 = (i + 1 + 1) * 262144 := by omega
    have l3 : (i + 1) * 262144 ≤ 9 * 262144 := Nat.mul_le_mul_right _ (by omega)
    walk_at "u"
    refine ⟨a, c, _, _, rfl, rfl, SqL.of wa2, SqL.of wc2, by rw [wlen, wlen, sizeLine_eq]; omega, fun p hp => ?_⟩
    walk_at "u"
    refine ⟨p, c, fs ++ ls, ls, _, _, _, _, rfl, none_old s2 hp, nc, ?_, up_new hp wc2, fun l hl => ?_, hls, lk, by rw [List.length_append]; omega, same_new s2 hp⟩
    · show upd _ p _ p = _
      rw [upd_same, List.map_append]
    · rcases List.mem_append.mp hl with hl | hl
      · exact ⟨Nat.le_succ_of_le (hf l hl).1, (hf l hl).2⟩
      · exact hls l hl
theorem ok__law_all_words (T : Txt G) : FnOk P w G.K G.mg base (L2.CX P w) 1 G.f__law_all_words G.d__law_all_words ["_law_letters", "_law_most"] (sp__law_all_words G) := by
  refine T.F__law_all_words.okX sc__law_all_words (fun _ _ _ _ h => h.1) (fun cdv A outer s H vs Q E hr h => ⟨t__law_all_words G (fun cls d _ H => E cls d H), ?_, pure__law_all_words T vs H Q E h⟩)
  have tk : Takes (cxOf (L2.CX P w) P w G.K G.mg base ["_law_letters", "_law_most", "_law_turn", "_law_found", "_law_ends", "_law_later", "_law_word", "_law_sign"] "_law_all_words" (defScope s__law_all_words) G.f__law_all_words cdv A outer s H E) (fun cls d _ H => E cls d H) := takes_of rfl rfl rfl rfl
  exact (pss_cons (ps_par (i := 3) (j := 4) rfl sc__law_all_words.nd rfl rfl (by decide) rfl rfl (pa_cons (pe_lst (pa_cons pe_str pa_nil)) (pa_cons (pe_lst (pa_cons pe_str pa_nil)) pa_nil)) (by rfl))
    (pss_cons (ps_for (passes_of rfl) rfl (pi_range1 rfl T.n_range (pa_cons (pv 1) pa_nil)) (pg_name (i := 2) sc__law_all_words.nd rfl (by first | exact Or.inl rfl | exact Or.inr rfl)) (pss_cons (ps_set (i := 5) sc__law_all_words.nd rfl (by first | exact Or.inl rfl | exact Or.inr rfl) (pe_lst pa_nil))
    (pss_cons (ps_for (passes_of rfl) rfl (pi_list (pv 4)) (pg_name (i := 6) sc__law_all_words.nd rfl (by first | exact Or.inl rfl | exact Or.inr rfl)) (pss_one (ps_expr (pe_bm PySem.F.plainAttrs_list PySem.F.slot_list_extend PySem.F.type_list_extend mt_extend (pv 5) (pa_cons (pe_lc (own := [("_law_sign", 7)]) (g := (gName 7)) (tt := tYes) rfl sc__law_all_words.nd (pi_str (pe_slice sl_str pe_str po_none (po_some (pv 0)))) (blkOk_by (N := ["_law_letters", "_law_most", "_law_turn", "_law_found", "_law_ends", "_law_later", "_law_word", "_law_sign"]) (sc := defScope s__law_all_words) (by decide +kernel)) (fun _ _ _ _ _ => pg_name (i := 7) sc__law_all_words.nd rfl (by first | exact Or.inl rfl | exact Or.inr rfl)) (fun _ _ _ _ _ => pts_nil) (fun _ _ _ _ _ => pe_op o_addS (pv 6) (pv 7))) pa_nil)))))
    (pss_one (ps_par (i := 3) (j := 4) rfl sc__law_all_words.nd rfl rfl (by decide) rfl rfl (pa_cons (pe_op op_catS (pv 3) (pv 5)) (pa_cons (pv 5) pa_nil)) (by rfl))))))
    (pss_one (ps_ret (pv 3)))))

end
end K67

set_option Elab.async false
set_option linter.all false
set_option maxRecDepth 100000
set_option maxHeartbeats 4000000
namespace K67
open PySem PySem.Spec PyProof.Rows L2 LX M67
local macro_rules | `(tactic| walk_at "hp") => `(tactic| first | assumption | exact upd_same | (refine up_new (by assumption) ?_; walk_at "hp") | (refine up_ne (by first | assumption | (exact Ne.symm (by assumption))) ?_; walk_at "hp") | (refine up_mut (by assumption) (by intro z; cases z) ?_; walk_at "hp"))
local macro_rules | `(tactic| walk_at "w1") => `(tactic| first
  | (with_reducible refine w_seq ?_) | (with_reducible refine w_asg ?_) | (with_reducible refine w_name ?_) | (with_reducible refine w_ret ?_) | (with_reducible refine w_drop ?_) | (with_reducible refine w_ifS ?_)
  | (with_reducible refine w_var (by with_unfolding_all exact rfl) ?_) | (with_reducible refine w_c ?_) | (with_reducible refine w_op ?_) | (with_reducible refine w_test ?_) | (with_reducible refine w_B ?_)
  | (with_reducible refine w_bl ?_) | (with_reducible refine w_cons ?_) | (with_reducible refine w_nil ?_) | (with_reducible refine w_cb ?_) | (with_reducible refine w_call ?_) | (with_reducible refine w_callS ?_)
  | (with_reducible refine w_addI ?_) | (with_reducible refine w_subI ?_) | (with_reducible refine w_ltI ?_) | (with_reducible refine w_leI ?_) | (with_reducible refine w_gtI ?_) | (with_reducible refine w_geI ?_)
  | (with_reducible refine w_tAnd ?_) | (with_reducible refine w_tOr ?_) | (with_reducible refine w_tNot ?_) | (with_reducible refine w_andV ?_) | (with_reducible refine w_orV ?_) | (with_reducible refine w_notV ?_) | (with_reducible refine w_if ?_)
  | (with_reducible refine w_un ?_) | (with_reducible refine w_neg ?_) | (with_reducible refine w_intI ?_) | (with_reducible refine w_intB ?_) | (with_reducible refine w_abs ?_)
  | (with_reducible refine w_eq (by with_unfolding_all exact rfl) ?_) | (with_reducible refine w_ne (by with_unfolding_all exact rfl) ?_) | (with_reducible refine w_isNone ?_) | (with_reducible refine w_notNone ?_)
  | (with_reducible refine w_tup ?_) | (with_reducible refine w_lst ?_) | (with_reducible refine w_sl ?_) | (with_reducible refine w_noPart ?_) | (with_reducible refine w_part ?_) | (with_reducible refine w_partI ?_)
  | (with_reducible refine w_fld0 ?_) | (with_reducible refine w_rz ?_)
  | (with_reducible refine w_next ?_) | (with_reducible refine w_brk ?_) | (with_reducible refine w_cont ?_) | (with_reducible refine w_retN ?_))
local macro_rules | `(tactic| walk_at "w") => `(tactic| repeat walk_at "w1")
local macro_rules | `(tactic| walk_at "u1") => `(tactic| first | walk_at "w1" | (with_reducible refine w_gsub ?_) | (with_reducible refine w_par ?_) | (with_reducible refine w_par3 ?_) | (with_reducible refine w_pr2 ?_) | (with_reducible refine w_pr3 ?_) | (with_reducible refine w_then ?_) | (with_reducible refine w_for ?_) | (with_reducible refine w_rng1 ?_) | (with_reducible refine w_enumS ?_) | (with_reducible refine w_iList ?_) | (with_reducible refine w_iTup ?_) | (with_reducible refine w_iStr ?_) | (with_reducible refine w_make ?_) | (with_reducible refine w_lc ?_) | (with_reducible refine w_iEnum ?_) | (with_reducible refine w_iEnumT ?_) | (with_reducible refine w_chain ?_) | (with_reducible refine w_bm ?_))
local macro_rules | `(tactic| walk_at "u") => `(tactic| repeat walk_at "u1")
section
variable {P : Program} {w : World} {base : Heap} {G : Gx}
/-! the law's moves -/
def Goals (n : Nat) (ms : List Nat) : Prop := ms.length = n ∧ ∀ m ∈ ms, m < n
theorem r_drawL {σ : L2.St} {H : Hp} {Q : VK} {s : Addr} {n : Nat} (hs : SrcAt H s) (hn : 0 < n) (hm : n < 1000) (k : ∀ (r : Nat) H', r < n → SrcAt H' s → But s H H' → Q (.int r) H') : sp__law_draw G ([.ref s, .int n] ++ []) H Q E0 :=
  ⟨rfl, s, n, rfl, hs, by omega, by omega, fun r H' h0 h1 s' b' => by
    obtain ⟨j, rfl⟩ := Int.eq_ofNat_of_zero_le h0
    exact k j H' (by omega) s' b'⟩
/-- [draw(n) for state in range(n)] -/
theorem lc_draws {σ : L2.St} {H1 : Hp} {Dl s : Addr} {n : Nat} {Qd : Hp → Prop} (hs : SrcAt H1 s) (hn : 0 < n) (hn2 : n < 1000) (hD : H1 Dl = none) (h0 : ∀ x, ((wipe σ [7]).set 7 (some x))[0]? = some (some (.ref s))) (h1 : ∀ x, ((wipe σ [7]).set 7 (some x))[1]? = some (some (.int n)))
    (hw : ∀ x, wipe ((wipe σ [7]).set 7 (some x)) [7] = wipe σ [7]) (hd : ∀ H ms, But s H1 H → SrcAt H s → Goals n ms → H Dl = some (.lst (IL ms)) → Qd H) :
    ∃ W : Nat → Nat → Hp → Prop, (∃ m, W 0 m (upd H1 Dl (.lst []))) ∧ ∀ k m H, W k m H →
      ((Itr 0 n).stop k H ∧ Qd H) ∨ ((Itr 0 n).go k H ∧ ∃ Nx : Hp → Prop, (∀ H', Nx H' → ∃ m', m' < m ∧ W (k + 1) m' H') ∧ ∀ x H', (Itr 0 n).yld k H x H' → gName 7 x (wipe σ [7]) H' fun σ2 H2 => wipe σ2 [7] = wipe σ [7] ∧ tYes σ2 H2 fun b H3 =>
        if b = true then tCall (sp__law_draw G) [] E0 (tCons (tVar 0) (tCons (tVar 1) tNil)) σ2 H3 fun y H4 => ∃ acc, H4 Dl = some (.lst acc) ∧ acc.length < sizeLine ∧ Nx (upd H4 Dl (.lst (acc ++ [y]))) else Nx H3) := by
  have sD : Dl ≠ s := hs.ne hD
  refine lc_fix (fix_rng 0 n) (fun i H => ∃ ms : List Nat, But s H1 H ∧ SrcAt H s ∧ ms.length = i ∧ (∀ m ∈ ms, m < n) ∧ H Dl = some (.lst (IL ms))) ⟨[], (But.refl s H1).new hD, hs.new hD, rfl, (fun m hm => nomatch hm), upd_same⟩ (fun i H hi z => ⟨hw _, w_yes ?_⟩) (fun H z => ?_)
  · obtain ⟨ms, b, sa, ml, mn, ex⟩ := z
    refine ⟨_, h0 _, _, h1 _, ?_⟩
    walk_at "u"
    refine r_drawL (σ := σ) sa hn hn2 fun r H' hr sa' b' => ?_
    refine ⟨_, b' _ _ ex sD, by rw [IL_len, ml, sizeLine_eq]; omega, ms ++ [r], ?_, sa'.mut sD, by rw [List.length_append, ml]; rfl, fun m hm => ?_, ?_⟩
    · exact (b.trans b').mut hD
    · rcases List.mem_append.mp hm with h | h
      · exact mn m h
      · have : m = r := by simpa using h
        omega
    · rw [upd_same, IL_app]
      rfl
  · obtain ⟨ms, b, sa, ml, mn, ex⟩ := z
    exact hd H ms b sa ⟨ml, mn⟩ ex

end
end K67

set_option Elab.async false
set_option linter.all false
set_option maxRecDepth 100000
set_option maxHeartbeats 4000000
namespace K67
open PySem PySem.Spec PyProof.Rows L2 LX M67
local macro_rules | `(tactic| walk_at "hp") => `(tactic| first | assumption | exact upd_same | (refine up_new (by assumption) ?_; walk_at "hp") | (refine up_ne (by first | assumption | (exact Ne.symm (by assumption))) ?_; walk_at "hp") | (refine up_mut (by assumption) (by intro z; cases z) ?_; walk_at "hp"))
local macro_rules | `(tactic| walk_at "w1") => `(tactic| first
  | (with_reducible refine w_seq ?_) | (with_reducible refine w_asg ?_) | (with_reducible refine w_name ?_) | (with_reducible refine w_ret ?_) | (with_reducible refine w_drop ?_) | (with_reducible refine w_ifS ?_)
  | (with_reducible refine w_var (by with_unfolding_all exact rfl) ?_) | (with_reducible refine w_c ?_) | (with_reducible refine w_op ?_) | (with_reducible refine w_test ?_) | (with_reducible refine w_B ?_)
  | (with_reducible refine w_bl ?_) | (with_reducible refine w_cons ?_) | (with_reducible refine w_nil ?_) | (with_reducible refine w_cb ?_) | (with_reducible refine w_call ?_) | (with_reducible refine w_callS ?_)
  | (with_reducible refine w_addI ?_) | (with_reducible refine w_subI ?_) | (with_reducible refine w_ltI ?_) | (with_reducible refine w_leI ?_) | (with_reducible refine w_gtI ?_) | (with_reducible refine w_geI ?_)
  | (with_reducible refine w_tAnd ?_) | (with_reducible refine w_tOr ?_) | (with_reducible refine w_tNot ?_) | (with_reducible refine w_andV ?_) | (with_reducible refine w_orV ?_) | (with_reducible refine w_notV ?_) | (with_reducible refine w_if ?_)
  | (with_reducible refine w_un ?_) | (with_reducible refine w_neg ?_) | (with_reducible refine w_intI ?_) | (with_reducible refine w_intB ?_) | (with_reducible refine w_abs ?_)
  | (with_reducible refine w_eq (by with_unfolding_all exact rfl) ?_) | (with_reducible refine w_ne (by with_unfolding_all exact rfl) ?_) | (with_reducible refine w_isNone ?_) | (with_reducible refine w_notNone ?_)
  | (with_reducible refine w_tup ?_) | (with_reducible refine w_lst ?_) | (with_reducible refine w_sl ?_) | (with_reducible refine w_noPart ?_) | (with_reducible refine w_part ?_) | (with_reducible refine w_partI ?_)
  | (with_reducible refine w_fld0 ?_) | (with_reducible refine w_rz ?_)
  | (with_reducible refine w_next ?_) | (with_reducible refine w_brk ?_) | (with_reducible refine w_cont ?_) | (with_reducible refine w_retN ?_))
local macro_rules | `(tactic| walk_at "w") => `(tactic| repeat walk_at "w1")
local macro_rules | `(tactic| walk_at "u1") => `(tactic| first | walk_at "w1" | (with_reducible refine w_gsub ?_) | (with_reducible refine w_par ?_) | (with_reducible refine w_par3 ?_) | (with_reducible refine w_pr2 ?_) | (with_reducible refine w_pr3 ?_) | (with_reducible refine w_then ?_) | (with_reducible refine w_for ?_) | (with_reducible refine w_rng1 ?_) | (with_reducible refine w_enumS ?_) | (with_reducible refine w_iList ?_) | (with_reducible refine w_iTup ?_) | (with_reducible refine w_iStr ?_) | (with_reducible refine w_make ?_) | (with_reducible refine w_lc ?_) | (with_reducible refine w_iEnum ?_) | (with_reducible refine w_iEnumT ?_) | (with_reducible refine w_chain ?_) | (with_reducible refine w_bm ?_))
local macro_rules | `(tactic| walk_at "u") => `(tactic| repeat walk_at "u1")
section
variable {P : Program} {w : World} {base : Heap} {G : Gx}
/-! goals bent: each by its way -/
theorem ixN_of {n j : Nat} (hj : j < n) : ixN n (j : Int) = some j := by
  unfold ixN
  rw [if_pos (by omega), if_pos (by omega)]
  simp
theorem erase_map {α β : Type} (f : α → β) : ∀ (l : List α) (i : Nat), (l.map f).eraseIdx i = (l.eraseIdx i).map f
  | [], _ => rfl
  | x :: l, 0 => rfl
  | x :: l, i + 1 => congrArg (f x :: ·) (erase_map f l i)
theorem max_lt {a b n : Nat} (ha : a < n) (hb : b < n) : (if b > a then b else a) < n := by split <;> omega
/-- [max(state, goal) for state, goal in enumerate(goals)] -/
theorem lc_max {σ : L2.St} {H1 : Hp} {Dl g : Addr} {n : Nat} {ms : List Nat} {Qd : Hp → Prop} (hg : H1 g = some (.lst (IL ms))) (gm : Goals n ms) (hn2 : n < 1000) (hD : H1 Dl = none)
    (h7 : ∀ x y, (((wipe σ [7, 9]).set 7 (some x)).set 9 (some y))[7]? = some (some x)) (h9 : ∀ x y, (((wipe σ [7, 9]).set 7 (some x)).set 9 (some y))[9]? = some (some y)) (hw : ∀ x y, wipe (((wipe σ [7, 9]).set 7 (some x)).set 9 (some y)) [7, 9] = wipe σ [7, 9])
    (hd : ∀ H ms2, Same H1 H → Goals n ms2 → H Dl = some (.lst (IL ms2)) → Qd H) :
    ∃ W : Nat → Nat → Hp → Prop, (∃ m, W 0 m (upd H1 Dl (.lst []))) ∧ ∀ k m H, W k m H →
      ((Ite G.K g).stop k H ∧ Qd H) ∨ ((Ite G.K g).go k H ∧ ∃ Nx : Hp → Prop, (∀ H', Nx H' → ∃ m', m' < m ∧ W (k + 1) m' H') ∧ ∀ x H', (Ite G.K g).yld k H x H' → gTup G.K 2 (gCons (gName 7) (gCons (gName 9) gNil)) x (wipe σ [7, 9]) H' fun σ2 H2 => wipe σ2 [7, 9] = wipe σ [7, 9] ∧ tYes σ2 H2 fun b H3 =>
        if b = true then tCB rMax2 (tCons (tVar 7) (tCons (tVar 9) tNil)) σ2 H3 fun y H4 => ∃ acc, H4 Dl = some (.lst acc) ∧ acc.length < sizeLine ∧ Nx (upd H4 Dl (.lst (acc ++ [y]))) else Nx H3) := by
  obtain ⟨gl, gn⟩ := gm
  refine lc_enR (enR_list G.K g (IL ms)) (fun i H => ∃ ms2 : List Nat, Same H1 H ∧ ms2.length = i ∧ (∀ m ∈ ms2, m < n) ∧ H Dl = some (.lst (IL ms2))) (fun i H z => by obtain ⟨_, s, _⟩ := z; exact SqL.of (s _ _ hg)) ⟨[], same_new (Same.refl H1) hD, rfl, (fun m hm => nomatch hm), upd_same⟩ (fun i H Tn hi z nT => ?_) (fun H z => ?_)
  · obtain ⟨ms2, s, ml, mn, ex⟩ := z
    rw [IL_len] at hi
    rw [IL_getD hi]
    refine w_gT2 upd_same ⟨hw _ _, w_yes ?_⟩
    refine ⟨_, h7 _ _, _, h9 _ _, ?_⟩
    walk_at "u"
    have hx := gn _ (getD_mem hi)
    have hi2 : i < n := by omega
    have e : (if ((ms.getD i 0 : Nat) : Int) > ((i : Nat) : Int) then ((ms.getD i 0 : Nat) : Int) else ((i : Nat) : Int)) = ((if ms.getD i 0 > i then ms.getD i 0 else i : Nat) : Int) := by
      by_cases h : ms.getD i 0 > i
      · rw [if_pos h, if_pos (by omega)]
      · rw [if_neg h, if_neg (by omega)]
    refine ⟨_, _, rfl, ?_⟩
    rw [e]
    refine ⟨_, up_new nT ex, by rw [IL_len, ml, sizeLine_eq]; omega, ms2 ++ [if ms.getD i 0 > i then ms.getD i 0 else i], same_mut (same_new s nT) hD, by rw [List.length_append, ml]; rfl, fun m hm => ?_, ?_⟩
    · rcases List.mem_append.mp hm with h | h
      · exact mn m h
      · have := max_lt hi2 hx
        have e2 : m = if ms.getD i 0 > i then ms.getD i 0 else i := by simpa using h
        omega
    · rw [upd_same, IL_app]
      rfl
  · obtain ⟨ms2, s, ml, mn, ex⟩ := z
    rw [IL_len] at ml
    exact hd H ms2 s ⟨by omega, mn⟩ ex
/-- [rest.pop(draw(len(rest))) for state in range(n)] -/
theorem lc_pops {σ : L2.St} {H1 : Hp} {Dl s t : Addr} {n : Nat} {Qd : Hp → Prop} (hs : SrcAt H1 s) (ht : H1 t = some (.lst (IL (List.range n)))) (ts : t ≠ s) (hn2 : n < 1000) (hD : H1 Dl = none) (h0 : ∀ x, ((wipe σ [7]).set 7 (some x))[0]? = some (some (.ref s))) (h8 : ∀ x, ((wipe σ [7]).set 7 (some x))[8]? = some (some (.ref t)))
    (hw : ∀ x, wipe ((wipe σ [7]).set 7 (some x)) [7] = wipe σ [7]) (hd : ∀ H ms, (∀ b o, H1 b = some o → b ≠ s → b ≠ t → H b = some o) → SrcAt H s → Goals n ms → H Dl = some (.lst (IL ms)) → Qd H) :
    ∃ W : Nat → Nat → Hp → Prop, (∃ m, W 0 m (upd H1 Dl (.lst []))) ∧ ∀ k m H, W k m H →
      ((Itr 0 n).stop k H ∧ Qd H) ∨ ((Itr 0 n).go k H ∧ ∃ Nx : Hp → Prop, (∀ H', Nx H' → ∃ m', m' < m ∧ W (k + 1) m' H') ∧ ∀ x H', (Itr 0 n).yld k H x H' → gName 7 x (wipe σ [7]) H' fun σ2 H2 => wipe σ2 [7] = wipe σ [7] ∧ tYes σ2 H2 fun b H3 =>
        if b = true then tBM G.K "list" rPopAt (tVar 8) (tCons (tCall (sp__law_draw G) [] E0 (tCons (tVar 0) (tCons (tCB (LX.rLen G.K) (tCons (tVar 8) tNil)) tNil))) tNil) σ2 H3 fun y H4 => ∃ acc, H4 Dl = some (.lst acc) ∧ acc.length < sizeLine ∧ Nx (upd H4 Dl (.lst (acc ++ [y]))) else Nx H3) := by
  have sD : Dl ≠ s := hs.ne hD
  have tD : Dl ≠ t := (ne_of_none ht hD).symm
  refine lc_fix (fix_rng 0 n) (fun i H => ∃ ms rs : List Nat, (∀ b o, H1 b = some o → b ≠ s → b ≠ t → H b = some o) ∧ SrcAt H s ∧ ms.length = i ∧ (∀ m ∈ ms, m < n) ∧ H Dl = some (.lst (IL ms)) ∧ H t = some (.lst (IL rs)) ∧ rs.length + i = n ∧ ∀ m ∈ rs, m < n)
    ⟨[], List.range n, (fun b o e _ _ => up_new hD e), hs.new hD, rfl, (fun m hm => nomatch hm), upd_same, up_new hD ht, by simp, fun m hm => List.mem_range.mp hm⟩ (fun i H hi z => ⟨hw _, w_yes ?_⟩) (fun H z => ?_)
  · obtain ⟨ms, rs, b, sa, ml, mn, ex, et, rl, rn⟩ := z
    with_reducible refine w_bm ?_
    refine ⟨_, h8 _, ty_list (SqL.of et), ?_⟩
    walk_at "u"
    refine ⟨_, h0 _, _, h8 _, ?_⟩
    walk_at "u"
    refine w_lenL (SqL.of et) ?_
    rw [IL_len]
    walk_at "u"
    have rpos : 0 < rs.length := by
      have hi' : i < n := hi
      omega
    refine r_drawL (σ := σ) (n := rs.length) sa rpos (by omega) fun r H' hr sa' b' => ?_
    have et' := b' _ _ et ts
    have ex' := b' _ _ ex sD
    walk_at "u"
    refine ⟨t, IL rs, (r : Nat), r, .int (rs.getD r 0 : Nat), rfl, rfl, et', by omega, by omega, ?_, IL_get hr, ?_⟩
    · rw [IL_len]
      exact (ixN_seq (ixN_of hr)).1
    · have er : (IL rs).eraseIdx r = IL (rs.eraseIdx r) := by
        unfold IL
        rw [erase_map]
      rw [er]
      refine ⟨IL ms, by rw [upd_ne tD]; exact ex', by rw [IL_len, ml, sizeLine_eq]; omega, ms ++ [rs.getD r 0], rs.eraseIdx r, fun b0 o0 e0 n1 n2 => ?_, (sa'.mut ts).mut sD, by rw [List.length_append, ml]; rfl, fun m hm => ?_, ?_, ?_, ?_, fun m hm => rn m (List.mem_of_mem_eraseIdx hm)⟩
      · have : b0 ≠ Dl := ne_of_none e0 hD
        rw [upd_ne this, upd_ne n2]
        exact b' _ _ (b b0 o0 e0 n1 n2) n1
      · rcases List.mem_append.mp hm with h | h
        · exact mn m h
        · have e2 : m = rs.getD r 0 := by simpa using h
          rw [e2]
          exact rn _ (getD_mem hr)
      · rw [upd_same, IL_app]
        rfl
      · rw [upd_ne tD.symm, upd_same]
      · rw [List.length_eraseIdx, if_pos hr]
        omega
  · obtain ⟨ms, rs, b, sa, ml, mn, ex, et, rl, rn⟩ := z
    exact hd H ms b sa ⟨ml, mn⟩ ex

end
end K67

set_option Elab.async false
set_option linter.all false
set_option maxRecDepth 100000
set_option maxHeartbeats 4000000
namespace K67
open PySem PySem.Spec PyProof.Rows L2 LX M67
local macro_rules | `(tactic| walk_at "hp") => `(tactic| first | assumption | exact upd_same | (refine up_new (by assumption) ?_; walk_at "hp") | (refine up_ne (by first | assumption | (exact Ne.symm (by assumption))) ?_; walk_at "hp") | (refine up_mut (by assumption) (by intro z; cases z) ?_; walk_at "hp"))
local macro_rules | `(tactic| walk_at "w1") => `(tactic| first
  | (with_reducible refine w_seq ?_) | (with_reducible refine w_asg ?_) | (with_reducible refine w_name ?_) | (with_reducible refine w_ret ?_) | (with_reducible refine w_drop ?_) | (with_reducible refine w_ifS ?_)
  | (with_reducible refine w_var (by with_unfolding_all exact rfl) ?_) | (with_reducible refine w_c ?_) | (with_reducible refine w_op ?_) | (with_reducible refine w_test ?_) | (with_reducible refine w_B ?_)
  | (with_reducible refine w_bl ?_) | (with_reducible refine w_cons ?_) | (with_reducible refine w_nil ?_) | (with_reducible refine w_cb ?_) | (with_reducible refine w_call ?_) | (with_reducible refine w_callS ?_)
  | (with_reducible refine w_addI ?_) | (with_reducible refine w_subI ?_) | (with_reducible refine w_ltI ?_) | (with_reducible refine w_leI ?_) | (with_reducible refine w_gtI ?_) | (with_reducible refine w_geI ?_)
  | (with_reducible refine w_tAnd ?_) | (with_reducible refine w_tOr ?_) | (with_reducible refine w_tNot ?_) | (with_reducible refine w_andV ?_) | (with_reducible refine w_orV ?_) | (with_reducible refine w_notV ?_) | (with_reducible refine w_if ?_)
  | (with_reducible refine w_un ?_) | (with_reducible refine w_neg ?_) | (with_reducible refine w_intI ?_) | (with_reducible refine w_intB ?_) | (with_reducible refine w_abs ?_)
  | (with_reducible refine w_eq (by with_unfolding_all exact rfl) ?_) | (with_reducible refine w_ne (by with_unfolding_all exact rfl) ?_) | (with_reducible refine w_isNone ?_) | (with_reducible refine w_notNone ?_)
  | (with_reducible refine w_tup ?_) | (with_reducible refine w_lst ?_) | (with_reducible refine w_sl ?_) | (with_reducible refine w_noPart ?_) | (with_reducible refine w_part ?_) | (with_reducible refine w_partI ?_)
  | (with_reducible refine w_fld0 ?_) | (with_reducible refine w_rz ?_)
  | (with_reducible refine w_next ?_) | (with_reducible refine w_brk ?_) | (with_reducible refine w_cont ?_) | (with_reducible refine w_retN ?_))
local macro_rules | `(tactic| walk_at "w") => `(tactic| repeat walk_at "w1")
local macro_rules | `(tactic| walk_at "u1") => `(tactic| first | walk_at "w1" | (with_reducible refine w_gsub ?_) | (with_reducible refine w_par ?_) | (with_reducible refine w_par3 ?_) | (with_reducible refine w_pr2 ?_) | (with_reducible refine w_pr3 ?_) | (with_reducible refine w_then ?_) | (with_reducible refine w_for ?_) | (with_reducible refine w_rng1 ?_) | (with_reducible refine w_enumS ?_) | (with_reducible refine w_iList ?_) | (with_reducible refine w_iTup ?_) | (with_reducible refine w_iStr ?_) | (with_reducible refine w_make ?_) | (with_reducible refine w_lc ?_) | (with_reducible refine w_iEnum ?_) | (with_reducible refine w_iEnumT ?_) | (with_reducible refine w_chain ?_) | (with_reducible refine w_bm ?_))
local macro_rules | `(tactic| walk_at "u") => `(tactic| repeat walk_at "u1")
section
variable {P : Program} {w : World} {base : Heap} {G : Gx}
/-! _law_moves -/
/-- all but s as it was, what is new left out -/
def ColsAt (s : Addr) (H : Hp) (c : Addr) (n : Nat) (gs : List (List Nat)) : Prop := c ≠ s ∧ ∃ as : List Addr, H c = some (.lst (as.map V.ref)) ∧ as.length = gs.length ∧ ∀ i, i < gs.length → H (as.getD i 0) = some (.lst (IL (gs.getD i []))) ∧ Goals n (gs.getD i []) ∧ as.getD i 0 ≠ s
def sp__law_moves (G : Gx) : Sp := fun vs H Q _ => vs.length = 3 ∧ ∃ (s : Addr) (n k : Nat), vs = [.ref s, .int n, .int k] ∧ SrcAt H s ∧ 1 ≤ n ∧ n ≤ 100 ∧ 1 ≤ k ∧ k ≤ 4 ∧
  ∀ p (R : List (List Nat)) H', H p = none → MatN s H' p R → R.length = n → (∀ i, i < n → (R.getD i []).length = k ∧ ∀ x ∈ R.getD i [], x < n) → SrcAt H' s → But s H H' → Q (.ref p) H'
def t__law_moves (G : Gx) (W : WX) : TS :=
  tSeq (tAsg (tTup (tCons (tCall (sp__law_draw G) [] E0 (tCons (tVar 0) (tCons (tC (.int 6)) tNil))) (tCons (tLst tNil) tNil))) (gTup G.K 2 (gCons (gName 4) (gCons (gName 5) gNil))))
  (tSeq (tFor (iRng1 (tCons (tVar 2) tNil)) (gName 3) (tSeq (tAsg (tLc (iRng1 (tCons (tVar 1) tNil)) (gName 7) tYes (tCall (sp__law_draw G) [] E0 (tCons (tVar 0) (tCons (tVar 1) tNil))) [7]) (gName 6))
  (tSeq (tIfS (tTest (tOp rEq (tVar 4) (tC (.int 1)))) (tAsg (tLc (iEnum G.K (tCons (tVar 6) tNil)) (gTup G.K 2 (gCons (gName 7) (gCons (gName 9) gNil))) tYes (tCB rMax2 (tCons (tVar 7) (tCons (tVar 9) tNil))) [7, 9]) (gName 6)) (tIfS (tTest (tOp rEq (tVar 4) (tC (.int 2)))) (tAsg (tCB (rSortedI G.K) (tCons (tVar 6) tNil)) (gName 6)) (tIfS (tTest (tOp rEq (tVar 4) (tC (.int 3)))) (tSeq (tAsg (tLstRg (tRg1 (tVar 1))) (gName 8))
  (tAsg (tLc (iRng1 (tCons (tVar 1) tNil)) (gName 7) tYes (tBM G.K "list" rPopAt (tVar 8) (tCons (tCall (sp__law_draw G) [] E0 (tCons (tVar 0) (tCons (tCB (LX.rLen G.K) (tCons (tVar 8) tNil)) tNil))) tNil)) [7]) (gName 6))) (tIfS (tTest (tOp rEq (tVar 4) (tC (.int 4)))) (tAsg (tCall (sp__law_pick G) [] E0 (tCons (tVar 0) (tCons (tLst (tCons (tLstRg (tRg1 (tVar 1))) (tCons (tOp rRep (tLst (tCons (tOp (rIxL G.K) (tVar 6) (tC (.int 0))) tNil)) (tVar 1)) (tCons (tVar 6) tNil)))) tNil))) (gName 6)) tNext))))
  (tDrop (tBM G.K "list" rAppend (tVar 5) (tCons (tVar 6) tNil))))))
  (tRet (tLc (iRng1 (tCons (tVar 1) tNil)) (gName 7) tYes (tLc (iList G.K (tVar 5)) (gName 6) tYes (tOp (rIxL G.K) (tVar 6) (tVar 7)) [6]) [7])))
theorem refs_ne_IL {as : List Addr} {ms : List Nat} (h : ms ≠ []) : (HO.lst (as.map V.ref)) ≠ .lst (IL ms) := fun e => by
  cases ms with
  | nil => exact h rfl
  | cons m ms =>
    cases as with
    | nil => cases e
    | cons a as => cases e
theorem goals_ne {n : Nat} {ms : List Nat} (hn : 0 < n) (g : Goals n ms) : ms ≠ [] := fun e => by
  rw [e] at g
  have := g.1
  simp at this
  omega
/-- sorted again numbers below n -/
theorem sorted_nat {n : Nat} {ms : List Nat} {ns : List Int} (g : Goals n ms) (hp : ns.Perm (ms.map fun m => ((m : Nat) : Int))) : ∃ ms2, Goals n ms2 ∧ ns.map V.int = IL ms2 := by
  have hm : ∀ k ∈ ns, ∃ m ∈ ms, k = (m : Nat) := fun k hk => by
    obtain ⟨m, h, e⟩ := List.mem_map.mp (hp.mem_iff.mp hk)
    exact ⟨m, h, e.symm⟩
  refine ⟨ns.map Int.toNat, ⟨by rw [List.length_map, hp.length_eq, List.length_map]; exact g.1, fun m h => ?_⟩, ?_⟩
  · obtain ⟨k, hk, rfl⟩ := List.mem_map.mp h
    obtain ⟨m, hm1, rfl⟩ := hm k hk
    simpa using g.2 m hm1
  · unfold IL
    rw [List.map_map]
    refine List.map_congr_left fun k hk => ?_
    obtain ⟨m, _, rfl⟩ := hm k hk
    simp
theorem range_goals (n : Nat) : Goals n (List.range n) := ⟨List.length_range, fun m hm => List.mem_range.mp hm⟩
theorem rgV_IL (n : Nat) : rgV 0 n = IL (List.range n) := by
  unfold rgV IL
  have e : ((n : Int) - 0).toNat = n := by omega
  rw [e]
  refine List.map_congr_left fun i _ => ?_
  congr 1
  omega
theorem ColsAt.push {s : Addr} {H : Hp} {c g : Addr} {n : Nat} {gs : List (List Nat)} {ms : List Nat} (h : ColsAt s H c n gs) (hn : 0 < n) (hg : H g = some (.lst (IL ms))) (gm : Goals n ms) (gs' : g ≠ s) : ∃ old : List V, H c = some (.lst old) ∧ old.length = gs.length ∧ ColsAt s (upd H c (.lst (old ++ [.ref g]))) c n (gs ++ [ms]) := by
  obtain ⟨cs, as, h1, h2, h3⟩ := h
  refine ⟨_, h1, by rw [refs_len, h2], cs, as ++ [g], by rw [upd_same, List.map_append]; rfl, by rw [List.length_append, List.length_append, h2]; rfl, fun i hi => ?_⟩
  have ne : ∀ {a : Addr} {xs : List Nat}, H a = some (.lst (IL xs)) → Goals n xs → a ≠ c := fun ha hx e => by
    subst e
    rw [h1] at ha
    exact refs_ne_IL (goals_ne hn hx) (Option.some.inj ha)
  by_cases hlt : i < gs.length
  · rw [app_left (l := as) (by omega), app_left (l := gs) hlt]
    obtain ⟨e1, e2, e3⟩ := h3 i hlt
    exact ⟨by rw [upd_ne (ne e1 e2)]; exact e1, e2, e3⟩
  · have hi' : i = gs.length := by
      rw [List.length_append] at hi
      have : i < gs.length + 1 := hi
      omega
    subst hi'
    rw [app_end (l := as) h2, app_end (l := gs) rfl]
    exact ⟨by rw [upd_ne (ne hg gm)]; exact hg, gm, gs'⟩
theorem ColsAt.but {s : Addr} {H H' : Hp} {c : Addr} {n : Nat} {gs : List (List Nat)} (h : ColsAt s H c n gs) (k : But s H H') : ColsAt s H' c n gs := by
  obtain ⟨cs, as, h1, h2, h3⟩ := h
  exact ⟨cs, as, k _ _ h1 cs, h2, fun i hi => ⟨k _ _ (h3 i hi).1 (h3 i hi).2.2, (h3 i hi).2⟩⟩
theorem map_getD_nat {gs : List (List Nat)} {i j : Nat} (hj : j < gs.length) : (gs.map fun g => g.getD i 0).getD j 0 = (gs.getD j []).getD i 0 := by
  rw [List.getD_eq_getElem?_getD, List.getElem?_map, List.getElem?_eq_getElem hj, List.getD_eq_getElem?_getD (l := gs), List.getElem?_eq_getElem hj]
  rfl
theorem range_map_getD {f : Nat → List Nat} {n i : Nat} (h : i < n) : ((List.range n).map f).getD i [] = f i := by
  rw [List.getD_eq_getElem?_getD, List.getElem?_map, List.getElem?_range h]
  rfl
theorem flat_rep {α : Type} (x : α) : ∀ n : Nat, (List.replicate n [x]).flatten = List.replicate n x
  | 0 => rfl
  | n + 1 => by rw [List.replicate_succ, List.flatten_cons, flat_rep x n]; rfl
/-- where the moves' loop stands -/
def MovesInv (H0 : Hp) (s : Addr) (n k way : Nat) (c : Addr) (i : Nat) (σ : L2.St) (H : Hp) : Prop := ∃ (gs : List (List Nat)) (x g st r y : Option V), σ = [some (.ref s), some (.int n), some (.int k), x, some (.int way), some (.ref c), g, st, r, y] ∧ gs.length = i ∧ ColsAt s H c n gs ∧ SrcAt H s ∧ But s H0 H
theorem pure__law_moves (T : Txt G) (vs : List V) (H : Hp) (Q : VK) (E : XK) (h : sp__law_moves G vs H Q E) : t__law_moves G (fun cls d _ H => E cls d H) { nx := fun _ H' => Q .non H', rt := Q } (start ["_law_source_here", "_law_many", "_law_letters", "_law_letter", "_law_way", "_law_columns_so", "_law_goals", "_law_state", "_law_rest", "_law_goal"] vs) H := by
  obtain ⟨_, s, n, k, rfl, hs, n1, n100, k1, k4, kQ⟩ := h
  unfold t__law_moves
  walk_at "u"
  refine r_drawL (σ := []) (n := 6) hs (by decide) (by decide) fun way H1 hway s1 b1 => ?_
  walk_at "u"
  refine ⟨by show 0 ≤ sizeLine; decide, fun c hc => ?_⟩
  walk_at "u"
  have cs : c ≠ s := s1.ne hc
  have nc : H c = none := by
    cases e : H c with
    | none => rfl
    | some o => rw [b1 _ _ e cs] at hc; cases hc
  refine ⟨by show 2 ≤ sizeLine; decide, fun tq htq => ?_⟩
  refine w_gT2 upd_same ?_
  walk_at "u"
  refine ⟨_, rfl, by omega, by omega, ?_⟩
  have ek : (k : Int).toNat = k := by omega
  rw [ek]
  refine for_fix (fix_rng 0 k) (MovesInv H s n k way c) ⟨[], _, _, _, _, _, rfl, rfl, ⟨cs, [], up_new htq upd_same, rfl, fun i hi => absurd hi (Nat.not_lt_zero i)⟩, (s1.new hc).new htq, (b1.new hc).new htq⟩ (fun i σ Ha hi z => ?_) (fun σ Ha z => ?_)
  · obtain ⟨gs, x, g, st, r, y, rfl, gl, ca, sa, ba⟩ := z
    walk_at "u"
    refine ⟨_, rfl, by omega, by omega, fun Dl hD => ?_⟩
    have en : (n : Int).toNat = n := by omega
    rw [en]
    refine lc_draws sa n1 (by omega) hD (fun _ => rfl) (fun _ => rfl) (fun _ => rfl) fun Hb ms bb sb gm eb => ?_
    walk_at "u"
    have cb := ca.but bb
    have bb' := ba.trans bb
    have Ds : Dl ≠ s := sa.ne hD
    -- a goals list at any place is put behind the columns
    have tail : ∀ (g : Addr) (ms : List Nat) (Hc : Hp) (x1 st1 r1 y1 : Option V), ColsAt s Hc c n gs → SrcAt Hc s → But s H Hc → Goals n ms → Hc g = some (.lst (IL ms)) → g ≠ s →
        (tDrop (tBM G.K "list" rAppend (tVar 5) (tCons (tVar 6) tNil))) { nx := MovesInv H s n k way c (i + 1), rt := Q, bk := fun σ H => (tRet (tLc (iRng1 (tCons (tVar 1) tNil)) (gName 7) tYes (tLc (iList G.K (tVar 5)) (gName 6) tYes (tOp (rIxL G.K) (tVar 6) (tVar 7)) [6]) [7])) { nx := fun _ H' => Q .non H', rt := Q } σ H, ct := MovesInv H s n k way c (i + 1) }
          [some (.ref s), some (.int n), some (.int k), x1, some (.int way), some (.ref c), some (.ref g), st1, r1, y1] Hc := by
      intro g ms Hc x1 st1 r1 y1 cc sc bc gm eg ngs
      obtain ⟨old, ho, ol, cp⟩ := cc.push n1 eg gm ngs
      walk_at "u"
      refine ⟨ty_list (SqL.of ho), ?_⟩
      walk_at "u"
      refine w_appL ho (by rw [ol, sizeLine_eq]; omega) ?_
      walk_at "u"
      refine ⟨gs ++ [ms], _, _, _, _, _, rfl, by rw [List.length_append, gl]; rfl, cp, sc.mut cs, bc.mut nc⟩
    have ew : ∀ m : Nat, decide (V.int (way : Nat) = V.int (m : Nat)) = decide (way = m) := fun m => decide_eq_decide.mpr ⟨fun z => by have := V.int.inj z; omega, fun z => by rw [z]⟩
    rw [show (V.int 1) = V.int ((1 : Nat) : Int) from rfl, ew 1]
    refine w_ite (fun _ => ?_) fun _ => ?_
    · walk_at "u"
      refine ⟨Dl, _, rfl, SqL.of eb, fun D2 hD2 => ?_⟩
      refine lc_max eb gm (by omega) hD2 (fun _ _ => rfl) (fun _ _ => rfl) (fun _ _ => rfl) fun Hc ms2 sc gm2 ec => ?_
      with_reducible refine w_name ?_
      exact tail D2 ms2 Hc _ _ _ _ (cb.but (But.of sc)) (sb.same sc) (bb'.thenSame sc) gm2 ec (sb.ne hD2)
    walk_at "u"
    rw [show (V.int 2) = V.int ((2 : Nat) : Int) from rfl, ew 2]
    refine w_ite (fun _ => ?_) fun _ => ?_
    · walk_at "u"
      refine ⟨Dl, _, rfl, SqL.of (by rw [eb, IL_ints]), fun ns p hp _ hpn => ?_⟩
      obtain ⟨ms2, gm2, e2⟩ := sorted_nat gm hp
      rw [e2]
      with_reducible refine w_name ?_
      exact tail p ms2 _ _ _ _ _ (cb.but ((But.refl s Hb).new hpn)) (sb.new hpn) (bb'.new hpn) gm2 upd_same (sb.ne hpn)
    walk_at "u"
    rw [show (V.int 3) = V.int ((3 : Nat) : Int) from rfl, ew 3]
    refine w_ite (fun _ => ?_) fun _ => ?_
    · walk_at "u"
      refine ⟨_, rfl, _, rfl, RgOk.of_le (by omega) (by omega) (by omega) (by omega), fun t ht => ?_⟩
      rw [rgV_IL]
      walk_at "u"
      refine ⟨_, rfl, by omega, by omega, fun D2 hD2 => ?_⟩
      rw [en]
      refine lc_pops (sb.new ht) upd_same (sb.ne ht) (by omega) hD2 (fun _ => rfl) (fun _ => rfl) (fun _ => rfl) fun Hc ms2 bc sc gm2 ec => ?_
      have b2 : But s Hb Hc := fun b o e nb => bc b o (up_new ht e) nb (ne_of_none e ht)
      with_reducible refine w_name ?_
      exact tail D2 ms2 Hc _ _ _ _ (cb.but b2) sc (bb'.trans b2) gm2 ec ((sb.new ht).ne hD2)
    walk_at "u"
    rw [show (V.int 4) = V.int ((4 : Nat) : Int) from rfl, ew 4]
    refine w_ite (fun _ => ?_) fun _ => ?_
    · walk_at "u"
      refine ⟨_, rfl, _, rfl, RgOk.of_le (by omega) (by omega) (by omega) (by omega), fun t ht => ?_⟩
      rw [rgV_IL]
      walk_at "u"
      have hm0 : 0 < ms.length := by rw [gm.1]; omega
      refine w_ixL (SqL.of (up_new ht eb)) (by exact IL_at (i := 0) hm0) ?_
      walk_at "u"
      refine ⟨by show 1 ≤ sizeLine; decide, fun u hu => ?_⟩
      walk_at "u"
      refine ⟨u, n, _, rfl, rfl, upd_same, by omega, by omega, by rw [en, sizeLine_eq]; show 1 * n ≤ _; omega, fun v hv => ?_⟩
      have er : (List.replicate (n : Int).toNat [V.int ((ms.getD 0 0 : Nat) : Int)]).flatten = IL (List.replicate n (ms.getD 0 0)) := by
        rw [en]
        unfold IL
        rw [List.map_replicate]
        exact flat_rep _ _
      rw [er]
      walk_at "u"
      refine ⟨by show 3 ≤ sizeLine; decide, fun o ho => ?_⟩
      have ev : Goals n (List.replicate n (ms.getD 0 0)) := ⟨List.length_replicate, fun m hm => by rw [(List.mem_replicate.mp hm).2]; exact gm.2 _ (getD_mem hm0)⟩
      have s1 := sb.new (o := .lst (IL (List.range n))) ht
      have ts := sb.ne ht
      have s2 := s1.new (o := .lst [V.int (ms.getD 0 0 : Nat)]) hu
      have s3 := s2.new (o := .lst (IL (List.replicate n (ms.getD 0 0)))) hv
      have vs := s2.ne hv
      have s4 := s3.new (o := .lst [.ref t, .ref v, .ref Dl]) ho
      refine r_pick (G := G) (E := E0) s4 upd_same (s3.ne ho) (by exact fun z => nomatch z) (by show 3 ≤ 1000; decide) fun gv Hc hg sc bc => ?_
      have bH : But s Hb Hc := (((((But.refl s Hb).new ht).new hu).new hv).new ho).trans bc
      have hx : ∃ a xs, gv = .ref a ∧ Goals n xs ∧ Hc a = some (.lst (IL xs)) ∧ a ≠ s := by
        rcases List.mem_cons.mp hg with rfl | hg
        · exact ⟨t, _, rfl, range_goals n, bc _ _ (up_new ho (up_new hv (up_new hu upd_same))) ts, ts⟩
        rcases List.mem_cons.mp hg with rfl | hg
        · exact ⟨v, _, rfl, ev, bc _ _ (up_new ho upd_same) vs, vs⟩
        · have e := List.mem_singleton.mp hg
          subst e
          exact ⟨Dl, _, rfl, gm, bc _ _ (up_new ho (up_new hv (up_new hu (up_new ht eb)))) Ds, Ds⟩
      obtain ⟨a, xs, rfl, gx, ex, ax⟩ := hx
      with_reducible refine w_name ?_
      exact tail a xs Hc _ _ _ _ (cb.but bH) sc (bb'.trans bH) gx ex ax
    · with_reducible refine w_next ?_
      exact tail Dl ms Hb _ _ _ _ cb sb bb' gm eb Ds
  · obtain ⟨gs, x, g, st, r, y, rfl, gl, ca, sa, ba⟩ := z
    obtain ⟨_, as, hc1, al, hrow⟩ := ca
    walk_at "u"
    refine ⟨_, rfl, by omega, by omega, fun Dl hD => ?_⟩
    have en : (n : Int).toNat = n := by omega
    rw [en]
    refine lc_fix (fix_rng 0 n) (fun i H' => ∃ ps : List Addr, ps.length = i ∧ Same Ha H' ∧ H' Dl = some (.lst (ps.map V.ref)) ∧ ∀ j, j < i → H' (ps.getD j 0) = some (.lst (IL (gs.map fun g => g.getD j 0))) ∧ ps.getD j 0 ≠ s)
      ⟨[], rfl, same_new (Same.refl Ha) hD, upd_same, fun j hj => absurd hj (Nat.not_lt_zero j)⟩ (fun i Hb hi zz => ⟨rfl, w_yes ?_⟩) (fun Hb zz => ?_)
    · obtain ⟨ps, pl, sb, eD, hps⟩ := zz
      have hi' : i < n := hi
      walk_at "u"
      refine ⟨_, rfl, ⟨_, SqL.of (sb _ _ hc1)⟩, fun Dr hr => ?_⟩
      refine lc_mapR (fixR_list G.K c (as.map V.ref)) (fun j => .int ((gs.getD j []).getD i 0 : Nat)) (by rw [refs_len, al, gl]; omega) hr (fun H s => SqL.of (s _ _ (sb _ _ hc1))) (fun _ => rfl) (fun j Hc Qc hj sc kc => ?_) (fun Hc sc ec => ?_)
      · rw [refs_len] at hj
        rw [refs_getD hj]
        obtain ⟨e1, e2, _⟩ := hrow j (by omega)
        walk_at "u"
        rw [Int.zero_add]
        refine w_ixL (SqL.of (sc _ _ (sb _ _ e1))) (IL_at (by rw [e2.1]; exact hi')) ?_
        exact kc _ (Same.refl _)
      · have er : (List.range (as.map V.ref).length).map (fun j => V.int ((gs.getD j []).getD i 0 : Nat)) = IL (gs.map fun g => g.getD i 0) := by
          rw [refs_len, al]
          have := range_getD (α := Nat) (fun j => V.int ((gs.getD j []).getD i 0 : Nat)) (gs.map fun g => g.getD i 0) (fun j hj => by rw [map_getD_nat (by simpa using hj)])
          rw [List.length_map] at this
          exact this
        rw [er] at ec
        have nD := none_old sb hr
        have nDr : Dr ≠ Dl := (ne_of_none eD hr).symm
        refine ⟨ps.map V.ref, sc _ _ eD, by rw [refs_len, sizeLine_eq]; omega, ps ++ [Dr], by rw [List.length_append, pl]; rfl, same_mut (sb.trans sc) hD, by rw [upd_same, List.map_append]; rfl, fun j hj => ?_⟩
        by_cases hlt : j < i
        · rw [app_left (l := ps) (by omega)]
          have ne : ps.getD j 0 ≠ Dl := fun e => by
            have := (hps j hlt).1
            rw [e, eD] at this
            exact refs_ne_IL (fun z => by have := congrArg List.length z; simp [gl] at this; omega) (Option.some.inj this)
          rw [upd_ne ne]
          exact ⟨sc _ _ (hps j hlt).1, (hps j hlt).2⟩
        · have e : j = i := by omega
          subst e
          rw [app_end (l := ps) pl, upd_ne nDr]
          exact ⟨ec, (sa.same sb).ne hr⟩
    · obtain ⟨ps, pl, sb, eD, hps⟩ := zz
      have nD : H Dl = none := by
        cases e : H Dl with
        | none => rfl
        | some o =>
          rw [ba _ _ e (sa.ne hD)] at hD
          cases hD
      refine kQ Dl ((List.range n).map fun j => gs.map fun g => g.getD j 0) Hb nD ⟨sa.ne hD, ps, eD, by rw [pl]; simp, fun i hi => ?_⟩ (by simp) (fun i hi => ?_) (sa.same sb) (ba.thenSame sb)
      · have hi' : i < n := by simpa using hi
        rw [range_map_getD hi']
        exact hps i hi'
      · rw [range_map_getD hi]
        refine ⟨by rw [List.length_map, gl], fun x hx => ?_⟩
        obtain ⟨g, hg, rfl⟩ := List.mem_map.mp hx
        obtain ⟨j, hj, rfl⟩ := List.getElem_of_mem hg
        obtain ⟨_, e2, _⟩ := hrow j hj
        have eg : gs.getD j [] = gs[j] := by rw [List.getD_eq_getElem?_getD, List.getElem?_eq_getElem hj]; rfl
        rw [eg] at e2
        exact e2.2 _ (getD_mem (by rw [e2.1]; exact hi))
theorem ok__law_moves (T : Txt G) : FnOk P w G.K G.mg base (L2.CX P w) 3 G.f__law_moves G.d__law_moves ["_law_source_here", "_law_many", "_law_letters"] (sp__law_moves G) := by
  refine T.F__law_moves.okX sc__law_moves (fun _ _ _ _ h => h.1) (fun cdv A outer s H vs Q E hr h => ⟨t__law_moves G (fun cls d _ H => E cls d H), ?_, pure__law_moves T vs H Q E h⟩)
  have tk : Takes (cxOf (L2.CX P w) P w G.K G.mg base ["_law_source_here", "_law_many", "_law_letters", "_law_letter", "_law_way", "_law_columns_so", "_law_goals", "_law_state", "_law_rest", "_law_goal"] "_law_moves" (defScope s__law_moves) G.f__law_moves cdv A outer s H E) (fun cls d _ H => E cls d H) := takes_of rfl rfl rfl rfl
  exact (pss_cons (ps_asg (pe_tup (pa_cons (pe_call (ok__law_draw T) (hr.mono (by decide)) rfl T.g__law_draw T.F__law_draw.kp T.b__law_draw .nil passL (pa_cons (pv 0) (pa_cons pe_int pa_nil))) (pa_cons (pe_lst pa_nil) pa_nil))) (pg_tup rfl (pgs_cons (pg_name (i := 4) sc__law_moves.nd rfl (by first | exact Or.inl rfl | exact Or.inr rfl)) (pgs_cons (pg_name (i := 5) sc__law_moves.nd rfl (by first | exact Or.inl rfl | exact Or.inr rfl)) pgs_nil))))
    (pss_cons (ps_for (passes_of rfl) rfl (pi_range1 rfl T.n_range (pa_cons (pv 2) pa_nil)) (pg_name (i := 3) sc__law_moves.nd rfl (by first | exact Or.inl rfl | exact Or.inr rfl)) (pss_cons (ps_setLc (i := 6) (own := [("_law_state", 7)]) (g := (gName 7)) (tt := tYes) rfl sc__law_moves.nd rfl rfl (sw_true rfl rfl rfl (by decide +kernel)) (pi_range1 rfl T.n_range (pa_cons (pv 1) pa_nil)) (blkOk_by (N := ["_law_source_here", "_law_many", "_law_letters", "_law_letter", "_law_way", "_law_columns_so", "_law_goals", "_law_state", "_law_rest", "_law_goal"]) (sc := defScope s__law_moves) (by decide +kernel)) (fun _ _ _ _ _ => pg_name (i := 7) sc__law_moves.nd rfl (by first | exact Or.inl rfl | exact Or.inr rfl)) (fun _ _ _ _ _ => pts_nil) (fun _ _ _ _ _ => pe_call (ok__law_draw T) (hr.mono (by decide)) rfl T.g__law_draw T.F__law_draw.kp T.b__law_draw .nil passL (pa_cons (pv 0) (pa_cons (pv 1) pa_nil))))
    (pss_cons (ps_if (pt_cmpR op_eq (pv 4) pe_int (nomark _)) (pss_one (ps_setLc (i := 6) (own := [("_law_state", 7), ("_law_goal", 9)]) (g := (gTup G.K 2 (gCons (gName 7) (gCons (gName 9) gNil)))) (tt := tYes) rfl sc__law_moves.nd rfl rfl (sw_true rfl rfl rfl (by decide +kernel)) (pi_enum rfl T.n_enumerate (pa_cons (pv 6) pa_nil)) (blkOk_by (N := ["_law_source_here", "_law_many", "_law_letters", "_law_letter", "_law_way", "_law_columns_so", "_law_goals", "_law_state", "_law_rest", "_law_goal"]) (sc := defScope s__law_moves) (by decide +kernel)) (fun _ _ _ _ _ => pg_tup rfl (pgs_cons (pg_name (i := 7) sc__law_moves.nd rfl (by first | exact Or.inl rfl | exact Or.inr rfl)) (pgs_cons (pg_name (i := 9) sc__law_moves.nd rfl (by first | exact Or.inl rfl | exact Or.inr rfl)) pgs_nil))) (fun _ _ _ _ _ => pts_nil) (fun _ _ _ _ _ => pe_callB (c_max2 rfl) (by rfl) T.n_max (by decide +kernel) (pa_cons (pv 7) (pa_cons (pv 9) pa_nil))))) (pss_one (ps_if (pt_cmpR op_eq (pv 4) pe_int (nomark _)) (pss_one (ps_set (i := 6) sc__law_moves.nd rfl (by first | exact Or.inl rfl | exact Or.inr rfl) (pe_callB cr_sortedI (by rfl) T.n_sorted (by decide +kernel) (pa_cons (pv 6) pa_nil)))) (pss_one (ps_if (pt_cmpR op_eq (pv 4) pe_int (nomark _)) (pss_cons (ps_set (i := 8) sc__law_moves.nd rfl (by first | exact Or.inl rfl | exact Or.inr rfl) (pe_listRg rfl rfl T.n_list (prg_1 rfl T.n_range (pv 1))))
    (pss_one (ps_setLc (i := 6) (own := [("_law_state", 7)]) (g := (gName 7)) (tt := tYes) rfl sc__law_moves.nd rfl rfl (sw_true rfl rfl rfl (by decide +kernel)) (pi_range1 rfl T.n_range (pa_cons (pv 1) pa_nil)) (blkOk_by (N := ["_law_source_here", "_law_many", "_law_letters", "_law_letter", "_law_way", "_law_columns_so", "_law_goals", "_law_state", "_law_rest", "_law_goal"]) (sc := defScope s__law_moves) (by decide +kernel)) (fun _ _ _ _ _ => pg_name (i := 7) sc__law_moves.nd rfl (by first | exact Or.inl rfl | exact Or.inr rfl)) (fun _ _ _ _ _ => pts_nil) (fun _ _ _ _ _ => pe_bm PySem.F.plainAttrs_list PySem.F.slot_list_pop PySem.F.type_list_pop mt_popAt (pv 8) (pa_cons (pe_call (ok__law_draw T) (hr.mono (by decide)) rfl T.g__law_draw T.F__law_draw.kp T.b__law_draw .nil passL (pa_cons (pv 0) (pa_cons (pe_callB c_len (by rfl) T.n_len PySem.boot_len (pa_cons (pv 8) pa_nil)) pa_nil))) pa_nil))))) (pss_one (ps_if (pt_cmpR op_eq (pv 4) pe_int (nomark _)) (pss_one (ps_set (i := 6) sc__law_moves.nd rfl (by first | exact Or.inl rfl | exact Or.inr rfl) (pe_call (ok__law_pick T) (hr.mono (by decide)) rfl T.g__law_pick T.F__law_pick.kp T.b__law_pick .nil passL (pa_cons (pv 0) (pa_cons (pe_lst (pa_cons (pe_listRg rfl rfl T.n_list (prg_1 rfl T.n_range (pv 1))) (pa_cons (pe_op op_rep (pe_lst (pa_cons (pe_ix ix_list (pv 6) pe_int (fun _ _ => rfl)) pa_nil)) (pv 1)) (pa_cons (pv 6) pa_nil)))) pa_nil))))) pss_nil)))))))
    (pss_one (ps_expr (pe_bm PySem.F.plainAttrs_list PySem.F.slot_list_append PySem.F.type_list_append mt_append (pv 5) (pa_cons (pv 6) pa_nil)))))))
    (pss_one (ps_ret (pe_lc (own := [("_law_state", 7)]) (g := (gName 7)) (tt := tYes) rfl sc__law_moves.nd (pi_range1 rfl T.n_range (pa_cons (pv 1) pa_nil)) (blkOk_by (N := ["_law_source_here", "_law_many", "_law_letters", "_law_letter", "_law_way", "_law_columns_so", "_law_goals", "_law_state", "_law_rest", "_law_goal"]) (sc := defScope s__law_moves) (by decide +kernel)) (fun _ _ _ _ _ => pg_name (i := 7) sc__law_moves.nd rfl (by first | exact Or.inl rfl | exact Or.inr rfl)) (fun _ _ _ _ _ => pts_nil) (fun _ _ _ _ _ => pe_lc (own := [("_law_goals", 6)]) (g := (gName 6)) (tt := tYes) rfl sc__law_moves.nd (pi_list (pv 5)) (blkOk_nest (N0 := ["_law_source_here", "_law_many", "_law_letters", "_law_letter", "_law_way", "_law_columns_so", "_law_goals", "_law_state", "_law_rest", "_law_goal"]) (nm := [(".0", .local), ("_law_state", .cell), ("_law_columns_so", .cell)]) rfl rfl (by decide +kernel)) (fun _ _ _ _ _ => pg_name (i := 6) sc__law_moves.nd rfl (by first | exact Or.inl rfl | exact Or.inr rfl)) (fun _ _ _ _ _ => pts_nil) (fun _ _ _ _ _ => pe_ix ix_list (pv 6) (pv 7) (fun _ _ => rfl))))))))

end
end K67

set_option Elab.async false
set_option linter.all false
set_option maxRecDepth 100000
set_option maxHeartbeats 4000000
namespace K67
open PySem PySem.Spec PyProof.Rows L2 LX M67
local macro_rules | `(tactic| walk_at "hp") => `(tactic| first | assumption | exact upd_same | (refine up_new (by assumption) ?_; walk_at "hp") | (refine up_ne (by first | assumption | (exact Ne.symm (by assumption))) ?_; walk_at "hp") | (refine up_mut (by assumption) (by intro z; cases z) ?_; walk_at "hp"))
local macro_rules | `(tactic| walk_at "w1") => `(tactic| first
  | (with_reducible refine w_seq ?_) | (with_reducible refine w_asg ?_) | (with_reducible refine w_name ?_) | (with_reducible refine w_ret ?_) | (with_reducible refine w_drop ?_) | (with_reducible refine w_ifS ?_)
  | (with_reducible refine w_var (by with_unfolding_all exact rfl) ?_) | (with_reducible refine w_c ?_) | (with_reducible refine w_op ?_) | (with_reducible refine w_test ?_) | (with_reducible refine w_B ?_)
  | (with_reducible refine w_bl ?_) | (with_reducible refine w_cons ?_) | (with_reducible refine w_nil ?_) | (with_reducible refine w_cb ?_) | (with_reducible refine w_call ?_) | (with_reducible refine w_callS ?_)
  | (with_reducible refine w_addI ?_) | (with_reducible refine w_subI ?_) | (with_reducible refine w_ltI ?_) | (with_reducible refine w_leI ?_) | (with_reducible refine w_gtI ?_) | (with_reducible refine w_geI ?_)
  | (with_reducible refine w_tAnd ?_) | (with_reducible refine w_tOr ?_) | (with_reducible refine w_tNot ?_) | (with_reducible refine w_andV ?_) | (with_reducible refine w_orV ?_) | (with_reducible refine w_notV ?_) | (with_reducible refine w_if ?_)
  | (with_reducible refine w_un ?_) | (with_reducible refine w_neg ?_) | (with_reducible refine w_intI ?_) | (with_reducible refine w_intB ?_) | (with_reducible refine w_abs ?_)
  | (with_reducible refine w_eq (by with_unfolding_all exact rfl) ?_) | (with_reducible refine w_ne (by with_unfolding_all exact rfl) ?_) | (with_reducible refine w_isNone ?_) | (with_reducible refine w_notNone ?_)
  | (with_reducible refine w_tup ?_) | (with_reducible refine w_lst ?_) | (with_reducible refine w_sl ?_) | (with_reducible refine w_noPart ?_) | (with_reducible refine w_part ?_) | (with_reducible refine w_partI ?_)
  | (with_reducible refine w_fld0 ?_) | (with_reducible refine w_rz ?_)
  | (with_reducible refine w_next ?_) | (with_reducible refine w_brk ?_) | (with_reducible refine w_cont ?_) | (with_reducible refine w_retN ?_))
local macro_rules | `(tactic| walk_at "w") => `(tactic| repeat walk_at "w1")
local macro_rules | `(tactic| walk_at "u1") => `(tactic| first | walk_at "w1" | (with_reducible refine w_gsub ?_) | (with_reducible refine w_par ?_) | (with_reducible refine w_par3 ?_) | (with_reducible refine w_pr2 ?_) | (with_reducible refine w_pr3 ?_) | (with_reducible refine w_then ?_) | (with_reducible refine w_for ?_) | (with_reducible refine w_rng1 ?_) | (with_reducible refine w_enumS ?_) | (with_reducible refine w_iList ?_) | (with_reducible refine w_iTup ?_) | (with_reducible refine w_iStr ?_) | (with_reducible refine w_make ?_) | (with_reducible refine w_lc ?_) | (with_reducible refine w_iEnum ?_) | (with_reducible refine w_iEnumT ?_) | (with_reducible refine w_chain ?_) | (with_reducible refine w_bm ?_))
local macro_rules | `(tactic| walk_at "u") => `(tactic| repeat walk_at "u1")
section
variable {P : Program} {w : World} {base : Heap} {G : Gx}
/-! the law's plan is drawn -/
def PlanS (s : Addr) (H : Hp) (q : Addr) (R : List (List Nat)) (s0 : Nat) (ms : List Nat) : Prop := q ≠ s ∧ ∃ p a : Addr, H q = some (.tup [.ref p, .int s0, .ref a]) ∧ MatN s H p R ∧ H a = some (.lst (IL ms)) ∧ a ≠ s
theorem PlanS.plan {s q : Addr} {H : Hp} {R : List (List Nat)} {s0 : Nat} {ms : List Nat} (h : PlanS s H q R s0 ms) : PlanAt H q R s0 ms := by
  obtain ⟨_, p, a, h1, h2, h3, _⟩ := h
  exact ⟨p, a, h1, h2.mat, h3⟩
theorem PlanS.but {s q : Addr} {H H' : Hp} {R : List (List Nat)} {s0 : Nat} {ms : List Nat} (h : PlanS s H q R s0 ms) (b : But s H H') : PlanS s H' q R s0 ms := by
  obtain ⟨h0, p, a, h1, h2, h3, h4⟩ := h
  exact ⟨h0, p, a, b _ _ h1 h0, h2.but b, b _ _ h3 h4, h4⟩
def sp__law_plan (G : Gx) : Sp := fun vs H Q _ => vs.length = 2 ∧ ∃ (s : Addr) (m : Nat), vs = [.ref s, .int m] ∧ SrcAt H s ∧ 1 ≤ m ∧ m ≤ 100 ∧
  ∀ q (R : List (List Nat)) (s0 k : Nat) (ms : List Nat) H', PlanS s H' q R s0 ms → TabF R k → R.length ≤ m → s0 < R.length → ms.length ≤ m → (∀ x ∈ ms, x < R.length) → SrcAt H' s → But s H H' → Q (.ref q) H'
def t__law_plan (G : Gx) (W : WX) : TS :=
  tSeq (tPar 4 5 (tCons (tOp rAddI (tC (.int 1)) (tCall (sp__law_draw G) [] E0 (tCons (tVar 0) (tCons (tVar 1) tNil)))) (tCons (tCall (sp__law_pick G) [] E0 (tCons (tVar 0) (tCons (tLst (tCons (tC (.int 1)) (tCons (tC (.int 2)) (tCons (tC (.int 3)) (tCons (tC (.int 2)) (tCons (tC (.int 4)) tNil)))))) tNil))) tNil)))
  (tSeq (tAsg (tCall (sp__law_moves G) [] E0 (tCons (tVar 0) (tCons (tVar 4) (tCons (tVar 5) tNil)))) (gName 2))
  (tSeq (tAsg (tLc (iRng1 (tCons (tVar 4) tNil)) (gName 6) (tTest (tOp rEq (tCall (sp__law_draw G) [] E0 (tCons (tVar 0) (tCons (tC (.int 2)) tNil))) (tC (.int 0)))) (tVar 6) [6]) (gName 3))
  (tRet (tTup (tCons (tVar 2) (tCons (tCall (sp__law_draw G) [] E0 (tCons (tVar 0) (tCons (tVar 4) tNil))) (tCons (tVar 3) tNil)))))))
theorem pure__law_plan (T : Txt G) (vs : List V) (H : Hp) (Q : VK) (E : XK) (h : sp__law_plan G vs H Q E) : t__law_plan G (fun cls d _ H => E cls d H) { nx := fun _ H' => Q .non H', rt := Q } (start ["_law_source_here", "_law_most", "_law_moves_here", "_law_marked", "_law_many", "_law_letters", "_law_state"] vs) H := by
  obtain ⟨_, s, m, rfl, hs, m1, m100, kQ⟩ := h
  unfold t__law_plan
  walk_at "u"
  refine r_drawL (σ := []) (n := m) hs (by omega) (by omega) fun r1 H1 hr1 s1 b1 => ?_
  walk_at "u"
  refine ⟨by show 5 ≤ sizeLine; decide, fun o ho => ?_⟩
  walk_at "u"
  refine r_pick (G := G) (E := E0) (s1.new ho) upd_same (s1.ne ho) (by exact fun z => nomatch z) (by show 5 ≤ 1000; decide) fun kv H2 hk s2 b2 => ?_
  have hk2 : ∃ k : Nat, kv = .int k ∧ 1 ≤ k ∧ k ≤ 4 := by
    have : kv = .int 1 ∨ kv = .int 2 ∨ kv = .int 3 ∨ kv = .int 2 ∨ kv = .int 4 := by simpa using hk
    rcases this with rfl | rfl | rfl | rfl | rfl
    · exact ⟨1, rfl, by decide, by decide⟩
    · exact ⟨2, rfl, by decide, by decide⟩
    · exact ⟨3, rfl, by decide, by decide⟩
    · exact ⟨2, rfl, by decide, by decide⟩
    · exact ⟨4, rfl, by decide, by decide⟩
  obtain ⟨k, rfl, k1, k4⟩ := hk2
  have en : (1 : Int) + (r1 : Nat) = ((r1 + 1 : Nat) : Int) := by omega
  rw [en]
  have b02 : But s H H2 := (b1.new ho).trans b2
  walk_at "u"
  refine ⟨rfl, s, r1 + 1, k, rfl, s2, by omega, by omega, k1, k4, fun p R H3 _ mp Rl hR s3 b3 => ?_⟩
  walk_at "u"
  refine ⟨_, rfl, by omega, by omega, fun Dl hD => ?_⟩
  have en2 : ((r1 + 1 : Nat) : Int).toNat = r1 + 1 := by omega
  rw [en2]
  have Ds : Dl ≠ s := s3.ne hD
  refine lc_fix (fix_rng 0 (r1 + 1)) (fun i H' => ∃ ms : List Nat, ms.length ≤ i ∧ (∀ x ∈ ms, x < i) ∧ H' Dl = some (.lst (IL ms)) ∧ SrcAt H' s ∧ But s H3 H')
    ⟨[], Nat.le_refl _, (fun x hx => nomatch hx), upd_same, s3.new hD, (But.refl s H3).new hD⟩ (fun i Hb hi zz => ⟨rfl, ?_⟩) (fun Hb zz => ?_)
  · obtain ⟨ms, ml, mn, eD, sb, bb⟩ := zz
    have hi' : i < r1 + 1 := hi
    walk_at "u"
    refine r_drawL (σ := []) (n := 2) sb (by decide) (by decide) fun r H4 hr s4 b4 => ?_
    walk_at "u"
    have eD4 := b4 _ _ eD Ds
    refine w_ite (fun _ => ?_) fun _ => ?_
    · walk_at "u"
      refine ⟨_, eD4, by rw [IL_len, sizeLine_eq]; omega, ms ++ [i], by rw [List.length_append]; exact Nat.succ_le_succ ml, fun x hx => ?_, ?_, s4.mut Ds, (bb.trans b4).mut hD⟩
      · rcases List.mem_append.mp hx with h | h
        · have := mn x h
          omega
        · have : x = i := by simpa using h
          omega
      · rw [upd_same, IL_app]
        simp [IL]
    · exact ⟨ms, by omega, fun x hx => by have := mn x hx; omega, eD4, s4, bb.trans b4⟩
  · obtain ⟨ms, ml, mn, eD, sb, bb⟩ := zz
    walk_at "u"
    refine r_drawL (σ := []) (n := r1 + 1) sb (by omega) (by omega) fun s0 H4 hs0 s4 b4 => ?_
    walk_at "u"
    refine ⟨by show 3 ≤ sizeLine; decide, fun q hq => ?_⟩
    have b34 := bb.trans b4
    have qs := s4.ne hq
    refine kQ q R s0 k ms _ ⟨qs, p, Dl, upd_same, (mp.but b34).but ((But.refl s H4).new hq), up_new hq (b4 _ _ eD Ds), Ds⟩ ⟨by omega, by omega, k1, k4, fun i hi => ?_⟩ (by omega) (by omega) (by omega) (fun x hx => by have := mn x hx; omega) (s4.new hq) (((b02.trans b3).trans b34).new hq)
    rw [Rl] at hi
    rw [Rl]
    exact hR i hi
theorem ok__law_plan (T : Txt G) : FnOk P w G.K G.mg base (L2.CX P w) 4 G.f__law_plan G.d__law_plan ["_law_source_here", "_law_most"] (sp__law_plan G) := by
  refine T.F__law_plan.okX sc__law_plan (fun _ _ _ _ h => h.1) (fun cdv A outer s H vs Q E hr h => ⟨t__law_plan G (fun cls d _ H => E cls d H), ?_, pure__law_plan T vs H Q E h⟩)
  have tk : Takes (cxOf (L2.CX P w) P w G.K G.mg base ["_law_source_here", "_law_most", "_law_moves_here", "_law_marked", "_law_many", "_law_letters", "_law_state"] "_law_plan" (defScope s__law_plan) G.f__law_plan cdv A outer s H E) (fun cls d _ H => E cls d H) := takes_of rfl rfl rfl rfl
  exact (pss_cons (ps_par (i := 4) (j := 5) rfl sc__law_plan.nd rfl rfl (by decide) rfl rfl (pa_cons (pe_op o_addI pe_int (pe_call (ok__law_draw T) (hr.mono (by decide)) rfl T.g__law_draw T.F__law_draw.kp T.b__law_draw .nil passL (pa_cons (pv 0) (pa_cons (pv 1) pa_nil)))) (pa_cons (pe_call (ok__law_pick T) (hr.mono (by decide)) rfl T.g__law_pick T.F__law_pick.kp T.b__law_pick .nil passL (pa_cons (pv 0) (pa_cons (pe_lst (pa_cons pe_int (pa_cons pe_int (pa_cons pe_int (pa_cons pe_int (pa_cons pe_int pa_nil)))))) pa_nil))) pa_nil)) (by rfl))
    (pss_cons (ps_set (i := 2) sc__law_plan.nd rfl (by first | exact Or.inl rfl | exact Or.inr rfl) (pe_call (ok__law_moves T) (hr.mono (by decide)) rfl T.g__law_moves T.F__law_moves.kp T.b__law_moves .nil passL (pa_cons (pv 0) (pa_cons (pv 4) (pa_cons (pv 5) pa_nil)))))
    (pss_cons (ps_setLc (i := 3) (own := [("_law_state", 6)]) (g := (gName 6)) (tt := tTest (tOp rEq (tCall (sp__law_draw G) [] E0 (tCons (tVar 0) (tCons (tC (.int 2)) tNil))) (tC (.int 0)))) rfl sc__law_plan.nd rfl rfl (sw_true rfl rfl rfl (by decide +kernel)) (pi_range1 rfl T.n_range (pa_cons (pv 4) pa_nil)) (blkOk_by (N := ["_law_source_here", "_law_most", "_law_moves_here", "_law_marked", "_law_many", "_law_letters", "_law_state"]) (sc := defScope s__law_plan) (by decide +kernel)) (fun _ _ _ _ _ => pg_name (i := 6) sc__law_plan.nd rfl (by first | exact Or.inl rfl | exact Or.inr rfl)) (fun _ _ _ _ _ => pts_one (pt_cmpR op_eq (pe_call (ok__law_draw T) (hr.mono (by decide)) rfl T.g__law_draw T.F__law_draw.kp T.b__law_draw .nil passL (pa_cons (pv 0) (pa_cons pe_int pa_nil))) pe_int (nomark _))) (fun _ _ _ _ _ => pv 6))
    (pss_one (ps_ret (pe_tup (pa_cons (pv 2) (pa_cons (pe_call (ok__law_draw T) (hr.mono (by decide)) rfl T.g__law_draw T.F__law_draw.kp T.b__law_draw .nil passL (pa_cons (pv 0) (pa_cons (pv 4) pa_nil))) (pa_cons (pv 3) pa_nil)))))))))

end
end K67

set_option Elab.async false
set_option linter.all false
set_option maxRecDepth 100000
set_option maxHeartbeats 4000000
namespace K67
open PySem PySem.Spec PyProof.Rows L2 LX M67
local macro_rules | `(tactic| walk_at "hp") => `(tactic| first | assumption | exact upd_same | (refine up_new (by assumption) ?_; walk_at "hp") | (refine up_ne (by first | assumption | (exact Ne.symm (by assumption))) ?_; walk_at "hp") | (refine up_mut (by assumption) (by intro z; cases z) ?_; walk_at "hp"))
local macro_rules | `(tactic| walk_at "w1") => `(tactic| first
  | (with_reducible refine w_seq ?_) | (with_reducible refine w_asg ?_) | (with_reducible refine w_name ?_) | (with_reducible refine w_ret ?_) | (with_reducible refine w_drop ?_) | (with_reducible refine w_ifS ?_)
  | (with_reducible refine w_var (by with_unfolding_all exact rfl) ?_) | (with_reducible refine w_c ?_) | (with_reducible refine w_op ?_) | (with_reducible refine w_test ?_) | (with_reducible refine w_B ?_)
  | (with_reducible refine w_bl ?_) | (with_reducible refine w_cons ?_) | (with_reducible refine w_nil ?_) | (with_reducible refine w_cb ?_) | (with_reducible refine w_call ?_) | (with_reducible refine w_callS ?_)
  | (with_reducible refine w_addI ?_) | (with_reducible refine w_subI ?_) | (with_reducible refine w_ltI ?_) | (with_reducible refine w_leI ?_) | (with_reducible refine w_gtI ?_) | (with_reducible refine w_geI ?_)
  | (with_reducible refine w_tAnd ?_) | (with_reducible refine w_tOr ?_) | (with_reducible refine w_tNot ?_) | (with_reducible refine w_andV ?_) | (with_reducible refine w_orV ?_) | (with_reducible refine w_notV ?_) | (with_reducible refine w_if ?_)
  | (with_reducible refine w_un ?_) | (with_reducible refine w_neg ?_) | (with_reducible refine w_intI ?_) | (with_reducible refine w_intB ?_) | (with_reducible refine w_abs ?_)
  | (with_reducible refine w_eq (by with_unfolding_all exact rfl) ?_) | (with_reducible refine w_ne (by with_unfolding_all exact rfl) ?_) | (with_reducible refine w_isNone ?_) | (with_reducible refine w_notNone ?_)
  | (with_reducible refine w_tup ?_) | (with_reducible refine w_lst ?_) | (with_reducible refine w_sl ?_) | (with_reducible refine w_noPart ?_) | (with_reducible refine w_part ?_) | (with_reducible refine w_partI ?_)
  | (with_reducible refine w_fld0 ?_) | (with_reducible refine w_rz ?_)
  | (with_reducible refine w_next ?_) | (with_reducible refine w_brk ?_) | (with_reducible refine w_cont ?_) | (with_reducible refine w_retN ?_))
local macro_rules | `(tactic| walk_at "w") => `(tactic| repeat walk_at "w1")
local macro_rules | `(tactic| walk_at "u1") => `(tactic| first | walk_at "w1" | (with_reducible refine w_gsub ?_) | (with_reducible refine w_par ?_) | (with_reducible refine w_par3 ?_) | (with_reducible refine w_pr2 ?_) | (with_reducible refine w_pr3 ?_) | (with_reducible refine w_then ?_) | (with_reducible refine w_for ?_) | (with_reducible refine w_rng1 ?_) | (with_reducible refine w_enumS ?_) | (with_reducible refine w_iList ?_) | (with_reducible refine w_iTup ?_) | (with_reducible refine w_iStr ?_) | (with_reducible refine w_make ?_) | (with_reducible refine w_lc ?_) | (with_reducible refine w_iEnum ?_) | (with_reducible refine w_iEnumT ?_) | (with_reducible refine w_chain ?_) | (with_reducible refine w_bm ?_))
local macro_rules | `(tactic| walk_at "u") => `(tactic| repeat walk_at "u1")
section
variable {P : Program} {w : World} {base : Heap} {G : Gx}
/-! _law_acts: what words do with states -/
def ActsOk (R : List (List Nat)) (k : Nat) (A T : List (List Nat)) : Prop := Form T k ∧ IsListed T k ∧ T.length = A.length ∧ A.length ≤ 256 ∧ (∀ x ∈ A, x.length = R.length) ∧ ∀ (l : List Nat) (s : Nat), (∀ c ∈ l, c ∈ sg k) → s < R.length → (A.getD (run T 0 l) []).getD s 0 = run R s l
def sp__law_acts (G : Gx) : Sp := fun vs H Q _ => vs.length = 1 ∧ ∃ (p : Addr) (R : List (List Nat)) (k : Nat), vs = [.ref p] ∧ Mat .lst .lst H p R ∧ TabF R k ∧ R.length ≤ 4 ∧
  ∀ (q a b t : Addr) (A T : List (List Nat)) H', H a = none → H t = none → H' q = some (.tup [.ref a, .ref b, .ref t]) → Mat .lst .tup H' a A → Mat .lst .lst H' t T → ActsOk R k A T → Same H H' → Q (.ref q) H'
def t__law_acts (G : Gx) (W : WX) : TS :=
  tSeq (tAsg (tTupRg (tRg1 (tCB (LX.rLen G.K) (tCons (tVar 0) tNil)))) (gName 1))
  (tSeq (tAsg (tTup (tCons (tLst (tCons (tVar 1) tNil)) (tCons (tLst (tCons (tC (.str "")) tNil)) (tCons (tDisp1T (tVar 1) (tC (.int 0))) (tCons (tLst tNil) (tCons (tC (.int 0)) tNil)))))) (gTup G.K 5 (gCons (gName 2) (gCons (gName 3) (gCons (gName 4) (gCons (gName 5) (gCons (gName 6) gNil)))))))
  (tSeq (tWhile (tTest (tOp rLtI (tVar 6) (tCB (LX.rLen G.K) (tCons (tVar 2) tNil)))) (tSeq (tDrop (tBM G.K "list" rAppend (tVar 5) (tCons (tLst tNil) tNil)))
  (tSeq (tFor (iRng1 (tCons (tCB (LX.rLen G.K) (tCons (tOp (rIxL G.K) (tVar 0) (tC (.int 0))) tNil)) tNil)) (gName 7) (tSeq (tAsg (tThen (tLc (iTup G.K (tOp (rIxL G.K) (tVar 2) (tVar 6))) (gName 9) tYes (tOp (rIxL G.K) (tOp (rIxL G.K) (tVar 0) (tVar 9)) (tVar 7)) [9]) (kTup G.K)) (gName 8))
  (tSeq (tIfS (tB (tDNotIn (tVar 8) (tVar 4))) (tSeq (sDPut (tVar 4) (tVar 8) (tCB (LX.rLen G.K) (tCons (tVar 2) tNil)))
  (tSeq (tDrop (tBM G.K "list" rAppend (tVar 2) (tCons (tVar 8) tNil)))
  (tDrop (tBM G.K "list" rAppend (tVar 3) (tCons (tOp rAddS (tOp (rIxL G.K) (tVar 3) (tVar 6)) (tOp rIxS (tC (.str "abcd")) (tVar 7))) tNil))))) tNext)
  (tDrop (tBM G.K "list" rAppend (tOp (rIxL G.K) (tVar 5) (tVar 6)) (tCons (tDGet (tVar 4) (tVar 8)) tNil))))))
  (tAsg (tOp rAddI (tVar 6) (tC (.int 1))) (gName 6)))))
  (tRet (tTup (tCons (tVar 2) (tCons (tVar 3) (tCons (tVar 5) tNil)))))))
theorem TabF.lt2 {R : List (List Nat)} {k : Nat} (t : TabF R k) : ∀ q c, q < R.length → c < k → M67.at2 R q c < R.length := fun q c h1 h2 => t.at2 h1 h2
theorem foldl_sub (T : List (List Nat)) : ∀ (l : List Nat) (s : Nat), run T s l = (l.map (· - 97)).foldl (fun q c => at2 T q c) s
  | [], s => rfl
  | c :: l, s => foldl_sub T l _
theorem acts_ok {R A T : List (List Nat)} {k : Nat} (tf : TabF R k) (B : Bfs (List Nat) k (actR R) (List.range R.length) A T) (len : T.length = A.length) (hA : A.length ≤ 256) (hl : ∀ x ∈ A, x.length = R.length) : ActsOk R k A T := by
  have p : 0 < A.length := (List.getElem?_eq_some_iff.mp B.first).1
  refine ⟨⟨by omega, by omega, tf.2.2.1, by have := tf.2.2.2.1; omega, fun i hi => ?_⟩, ⟨_, _, _, _, _, B.listed len (l := actL R) (fun c hc => act_start fun q hq => tf.lt2 q c hq hc) (act_comm R)⟩, len, hA, hl, fun l s hc hs => ?_⟩
  · have e := List.getElem?_eq_getElem hi
    rw [getD_of e]
    exact ⟨(B.rows i _ e).1, fun x hx => by rw [len]; exact B.lt e x hx⟩
  · have hc2 : ∀ c ∈ l.map (· - 97), c < k := fun c h => by
      obtain ⟨d, hd, rfl⟩ := List.mem_map.mp h
      exact (sg_lt tf.2.2.2.1 (hc d hd)).2.1
    have e := B.runs len _ 0 _ hc2 B.first
    rw [foldl_sub T l 0, getD_of e, foldl_sub R l s]
    have hm := hl _ (List.mem_of_getElem? e)
    have e2 := act_run R (l.map (· - 97)) (List.range R.length) s
    rw [range_getD_self _ hs, step_run tf.lt2 _ s hs hc2] at e2
    rw [← e2, List.getD_eq_getElem?_getD, List.getD_eq_getElem?_getD, List.getElem?_eq_getElem (by rw [hm]; exact hs)]
    rfl
/-- texts, the i-th at most i long -/
def WordsL (H : Hp) (b : Addr) (n : Nat) : Prop := ∃ ws : List (List Nat), H b = some (.lst (ws.map fun l => .str (S l))) ∧ ws.length = n ∧ ∀ i, i < n → (ws.getD i []).length ≤ i
theorem w_put {td ty tv : TE} {D : Ends} {σ : L2.St} {H : Hp} (h : tv σ H fun v H1 => td σ H1 fun x H2 => ty σ H2 fun y H3 => ∃ a H4, x = .ref a ∧ DPut H3 a y v H4 ∧ D.nx σ H4) : sDPut td ty tv D σ H := h
theorem abcd_at {c : Nat} (h : c < 4) : atI ("abcd" : Str).cps.toList ((c : Nat) : Int) = some (97 + c) := by
  have : c = 0 ∨ c = 1 ∨ c = 2 ∨ c = 3 := by omega
  rcases this with rfl | rfl | rfl | rfl <;> decide +kernel
theorem dT_ne_lst {H : Hp} {A : List (List Nat)} {d x : Addr} {xs : List V} (kn : KnowsL H d A) (h : H x = some (.lst xs)) : d ≠ x := fun e => by
  obtain ⟨kvs, h1, _⟩ := kn
  rw [e, h] at h1
  cases h1
theorem dT_ne_tup {H : Hp} {A : List (List Nat)} {d x : Addr} {xs : List V} (kn : KnowsL H d A) (h : H x = some (.tup xs)) : d ≠ x := fun e => by
  obtain ⟨kvs, h1, _⟩ := kn
  rw [e, h] at h1
  cases h1
/-- the table's row grows by the place of the image -/
theorem acts_tail {H : Hp} {D : Ends} {p f a b d t q : Addr} {c at' k j : Nat} {y : Option V} {T A : List (List Nat)} {row x : List Nat} (hat : at' = T.length) (mt : Mat .lst .lst H t (T ++ [row])) (kn : KnowsL H d A) (hq : H q = some (.tup (IL x))) (hx : A[j]? = some x) (hr : ∀ i, i < T.length → (T.getD i []).length = k) (hk : row.length < k) (k4 : k ≤ 4)
    (hD : ∀ u xs, H t = some (.lst xs) → atI xs ((at' : Nat) : Int) = some (.ref u) → H u = some (.lst (IL row)) → u ≠ t → Mat .lst .lst (upd H u (.lst (IL row ++ [.int (j : Nat)]))) t (T ++ [row ++ [j]]) → D.nx [some (.ref p), some (.ref f), some (.ref a), some (.ref b), some (.ref d), some (.ref t), some (.int at'), some (.int c), some (.ref q), y] (upd H u (.lst (IL row ++ [.int (j : Nat)])))) :
    tDrop (tBM G.K "list" rAppend (tOp (rIxL G.K) (tVar 5) (tVar 6)) (tCons (tDGet (tVar 4) (tVar 8)) tNil)) D [some (.ref p), some (.ref f), some (.ref a), some (.ref b), some (.ref d), some (.ref t), some (.int at'), some (.int c), some (.ref q), y] H := by
  subst hat
  obtain ⟨u, xs, h1, h2, up, hu, mt'⟩ := mt.grow (j := j) hr hk
  walk_at "u"
  refine w_ixL (SqL.of h1) h2 ?_
  refine ⟨ty_list (SqL.of hu), ?_⟩
  walk_at "u"
  refine ⟨_, rfl, _, rfl, d, _, rfl, kn.get hq hx, ?_⟩
  walk_at "u"
  refine w_appL hu (by rw [IL_len, sizeLine_eq]; omega) ?_
  exact hD u xs h1 h2 hu up mt'
/-- an image that is new -/
theorem acts_new {H : Hp} {D : Ends} {p f a b d t q : Addr} {c at' : Nat} {y : Option V} {T A : List (List Nat)} {x : List Nat} (hat : at' < A.length) (hA : A.length ≤ 256) (ma : Mat .lst .tup H a A) (wb : WordsL H b A.length) (mt : Mat .lst .lst H t T) (kn : KnowsL H d A) (hq : H q = some (.tup (IL x))) (hx : x ∉ A) (hc : c < 4) (ab : a ≠ b) (at_ : a ≠ t) (bt : b ≠ t)
    (hD : ∀ H', (∀ e o, H e = some o → e ≠ a → e ≠ b → e ≠ d → H' e = some o) → Mat .lst .tup H' a (A ++ [x]) → WordsL H' b (A.length + 1) → Mat .lst .lst H' t T → KnowsL H' d (A ++ [x]) → D.nx [some (.ref p), some (.ref f), some (.ref a), some (.ref b), some (.ref d), some (.ref t), some (.int at'), some (.int c), some (.ref q), y] H') :
    tSeq (sDPut (tVar 4) (tVar 8) (tCB (LX.rLen G.K) (tCons (tVar 2) tNil)))
  (tSeq (tDrop (tBM G.K "list" rAppend (tVar 2) (tCons (tVar 8) tNil)))
  (tDrop (tBM G.K "list" rAppend (tVar 3) (tCons (tOp rAddS (tOp (rIxL G.K) (tVar 3) (tVar 6)) (tOp rIxS (tC (.str "abcd")) (tVar 7))) tNil)))) D [some (.ref p), some (.ref f), some (.ref a), some (.ref b), some (.ref d), some (.ref t), some (.int at'), some (.int c), some (.ref q), y] H := by
  obtain ⟨as, ha, al, hrow⟩ := id ma
  obtain ⟨ws, hb, wl, hw⟩ := wb
  have da := dT_ne_lst kn ha
  have db := dT_ne_lst kn hb
  have dq := dT_ne_tup kn hq
  have dt : d ≠ t := by
    obtain ⟨ts, ht, _⟩ := mt
    exact dT_ne_lst kn ht
  have as0 : as ≠ [] := fun z => by
    rw [z] at al
    simp at al
    omega
  have ws0 : ws ≠ [] := fun z => by
    rw [z] at wl
    simp at wl
    omega
  walk_at "u"
  refine w_put ?_
  walk_at "u"
  refine w_lenL (SqL.of ha) ?_
  rw [refs_len, al]
  walk_at "u"
  obtain ⟨o, hput, kn1⟩ := kn.put hq hx (by rw [sizeLine_eq]; omega)
  refine ⟨d, _, rfl, hput, ?_⟩
  have ma1 : Mat .lst .tup (upd H d o) a A := ma.but (But.at_) da.symm fun i hi e => by
    obtain ⟨kvs, h1, _⟩ := kn
    rw [h1] at e
    cases e
  have hq1 : upd H d o q = some (.tup (IL x)) := by rw [upd_ne dq.symm]; exact hq
  have hb1 : upd H d o b = some (.lst (ws.map fun l => .str (S l))) := by rw [upd_ne db.symm]; exact hb
  have mt1 : Mat .lst .lst (upd H d o) t T := mt.but (But.at_) dt.symm fun i hi e => by
    obtain ⟨kvs, h1, _⟩ := kn
    rw [h1] at e
    cases e
  have k1 : ∀ e o', H e = some o' → e ≠ a → e ≠ b → e ≠ d → upd H d o e = some o' := fun e o' h _ _ n => by rw [upd_ne n]; exact h
  have ha1 : upd H d o a = some (.lst (as.map V.ref)) := by rw [upd_ne da.symm]; exact ha
  generalize upd H d o = H1 at kn1 ma1 hq1 hb1 mt1 k1 ha1
  obtain ⟨old, ho, ol, ma2⟩ := ma1.push_tup hq1
  walk_at "u"
  refine ⟨ty_list (SqL.of ho), ?_⟩
  walk_at "u"
  refine w_appL ho (by rw [ol, sizeLine_eq]; omega) ?_
  have ba : But a H1 (upd H1 a (.lst (old ++ [.ref q]))) := But.at_
  have kn2 := kn1.but ba da
  have hb2 := ba _ _ hb1 ab.symm
  have mt2 := mt1.but ba at_.symm fun i hi e => by
    rw [ha1] at e
    exact ref_ne_IL as0 (Option.some.inj e)
  generalize upd H1 a (.lst (old ++ [.ref q])) = H2 at ma2 ba kn2 hb2 mt2
  walk_at "u"
  refine ⟨ty_list (SqL.of hb2), ?_⟩
  walk_at "u"
  have ew : atI (ws.map fun l => V.str (S l)) ((at' : Nat) : Int) = some (.str (S (ws.getD at' []))) := by
    refine atI_nat ?_
    rw [List.getElem?_map, List.getD_eq_getElem?_getD, List.getElem?_eq_getElem (by omega)]
    rfl
  refine w_ixL (SqL.of hb2) ew ?_
  walk_at "u"
  refine ⟨_, _, _, rfl, rfl, line1000 (by decide +kernel), abcd_at hc, ?_⟩
  have wa := hw at' hat
  refine w_addS (line1000 (by rw [S_len]; show _ + 1 ≤ _; omega)) ?_
  have ea : S (ws.getD at' []) ++ (⟨#[97 + c]⟩ : Str) = S (ws.getD at' [] ++ [97 + c]) := S_app _ [97 + c]
  rw [ea]
  walk_at "u"
  refine w_appL hb2 (by rw [List.length_map, wl, sizeLine_eq]; omega) ?_
  have bb : But b H2 (upd H2 b (.lst ((ws.map fun l => V.str (S l)) ++ [.str (S (ws.getD at' [] ++ [97 + c]))]))) := But.at_
  walk_at "u"
  refine hD _ (fun e o' h n1 n2 n3 => bb _ _ (ba _ _ (k1 e o' h n1 n2 n3) n1) n2) (ma2.but bb ab fun i hi e => by rw [hb2] at e; cases e) ⟨ws ++ [ws.getD at' [] ++ [97 + c]], by rw [upd_same, List.map_append]; rfl, by rw [List.length_append, wl]; rfl, fun i hi => ?_⟩ (mt2.but bb bt.symm fun i hi e => ?_) (kn2.but bb db)
  · by_cases hlt : i < A.length
    · rw [app_left' (l := ws) (by omega)]
      exact hw i hlt
    · have e : i = A.length := by omega
      subst e
      rw [app_end' (l := ws) wl, List.length_append]
      show (ws.getD at' []).length + 1 ≤ _
      omega
  · rw [hb2] at e
    have e2 := HO.lst.inj (Option.some.inj e)
    cases ws with
    | nil => exact ws0 rfl
    | cons w ws =>
      unfold IL at e2
      cases er : T.getD i [] with
      | nil => rw [er] at e2; cases e2
      | cons m ms => rw [er] at e2; cases e2
/-- where the law's while stands -/
structure ActsAt (R : List (List Nat)) (k : Nat) (H0 : Hp) (a b d t : Addr) (A T : List (List Nat)) (H : Hp) : Prop where
  ma : Mat .lst .tup H a A
  wb : WordsL H b A.length
  mt : Mat .lst .lst H t T
  kn : KnowsL H d A
  sm : Same H0 H
  hl : ∀ x ∈ A, x.length = R.length ∧ ∀ y ∈ x, y < R.length
structure Apart (H0 : Hp) (a b d t : Addr) : Prop where
  ab : a ≠ b
  at_ : a ≠ t
  bt : b ≠ t
  na : H0 a = none
  nb : H0 b = none
  nd : H0 d = none
  nt : H0 t = none
theorem acts_count {R A : List (List Nat)} (h4 : R.length ≤ 4) (nd : A.Nodup) (hl : ∀ x ∈ A, x.length = R.length ∧ ∀ y ∈ x, y < R.length) : A.length ≤ 256 := by
  have h := count_le nd hl
  have : R.length ^ R.length ≤ 256 := by
    have : R.length = 0 ∨ R.length = 1 ∨ R.length = 2 ∨ R.length = 3 ∨ R.length = 4 := by omega
    rcases this with h | h | h | h | h <;> rw [h] <;> decide
  omega
theorem actR_ok {R : List (List Nat)} {k c : Nat} {x : List Nat} (tf : TabF R k) (hc : c < k) (hx : x.length = R.length ∧ ∀ y ∈ x, y < R.length) : (actR R c x).length = R.length ∧ ∀ y ∈ actR R c x, y < R.length := by
  refine ⟨by unfold actR; rw [List.length_map]; exact hx.1, fun y hy => ?_⟩
  obtain ⟨z, hz, rfl⟩ := List.mem_map.mp hy
  unfold stepF
  rw [if_pos (hx.2 z hz)]
  exact tf.lt2 z c (hx.2 z hz) hc
theorem actR_eq {R : List (List Nat)} {c : Nat} {x : List Nat} (hx : ∀ y ∈ x, y < R.length) : actR R c x = x.map fun q => at2 R q c := List.map_congr_left fun y hy => if_pos (hx y hy)
theorem range_map {β : Type} (h : Nat → β) (x : List Nat) : (List.range x.length).map (fun j => h (x.getD j 0)) = x.map h := by
  refine List.ext_getElem (by simp) fun i h1 h2 => ?_
  have h3 : i < x.length := by simpa using h2
  rw [List.getElem_map, List.getElem_map, List.getElem_range, List.getD_eq_getElem?_getD, List.getElem?_eq_getElem h3]
  rfl
theorem w_tupRg1 {ta : TE} {σ : L2.St} {H : Hp} {Q : VK} (h : ta σ H fun x H1 => ∃ n, x = .int n ∧ RgOk 0 n ∧ ∀ q, H1 q = none → Q (.ref q) (upd H1 q (.tup (rgV 0 n)))) : tTupRg (tRg1 ta) σ H Q := h
theorem w_gT5 {K : PySem.W.Frag} {σ : L2.St} {H : Hp} {N : L2.St → Hp → Prop} {p : Addr} {i j l m n : Nat} {u v w x z : V} (hp : H p = some (.tup [u, v, w, x, z])) (h : N (((((σ.set i (some u)).set j (some v)).set l (some w)).set m (some x)).set n (some z)) H) :
    gTup K 5 (gCons (gName i) (gCons (gName j) (gCons (gName l) (gCons (gName m) (gCons (gName n) gNil))))) (.ref p) σ H N := ⟨p, _, rfl, SqT.of hp, rfl, u, [v, w, x, z], rfl, v, [w, x, z], rfl, w, [x, z], rfl, x, [z], rfl, z, [], rfl, rfl, h⟩
theorem bfs_le {R A T : List (List Nat)} {k : Nat} {r : Nat → List Nat → List Nat} {one : List Nat} (k1 : 1 ≤ k) (B : Bfs (List Nat) k r one A T) : T.length ≤ A.length := by
  by_cases h : T.length = 0
  · omega
  · have hi : T.length - 1 < T.length := by omega
    obtain ⟨_, h2⟩ := B.rows _ _ (List.getElem?_eq_getElem hi)
    obtain ⟨z, e, _⟩ := h2 0 (by omega)
    have := (List.getElem?_eq_some_iff.mp e).1
    omega
theorem pure__law_acts (T : Txt G) (vs : List V) (H : Hp) (Q : VK) (E : XK) (h : sp__law_acts G vs H Q E) : t__law_acts G (fun cls d _ H => E cls d H) { nx := fun _ H' => Q .non H', rt := Q } (start ["_law_moves_here", "_law_first", "_law_acts_here", "_law_words_so", "_law_known", "_law_table", "_law_at", "_law_letter", "_law_later", "_law_state"] vs) H := by
  obtain ⟨_, p, R, k, rfl, mp, tf, h4, kQ⟩ := h
  obtain ⟨R1, R2, k1, k4, hr⟩ := id tf
  obtain ⟨ps, hp, pl, hrow⟩ := id mp
  unfold t__law_acts
  walk_at "u"
  refine w_tupRg1 ?_
  walk_at "u"
  refine w_lenL (SqL.of hp) ?_
  rw [refs_len, pl]
  refine ⟨_, rfl, RgOk.of_le (by omega) (by omega) (by omega) (by omega), fun f hf => ?_⟩
  rw [rgV_IL]
  walk_at "u"
  refine ⟨by show 1 ≤ sizeLine; decide, fun a ha => ?_⟩
  walk_at "u"
  refine ⟨by show 1 ≤ sizeLine; decide, fun b hb => ?_⟩
  rw [e_emp]
  walk_at "u"
  refine fun d hd => ?_
  walk_at "u"
  have ef : upd (upd (upd (upd H f (.tup (IL (List.range R.length)))) a (.lst [.ref f])) b (.lst [.str (S [])])) d (.dT []) f = some (.tup (IL (List.range R.length))) := up_new hd (up_new hb (up_new ha upd_same))
  refine ⟨f, KL (List.range R.length), rfl, by rw [KL_kV]; exact ef, upd_same, ?_⟩
  walk_at "u"
  refine ⟨by show 0 ≤ sizeLine; decide, fun t ht => ?_⟩
  walk_at "u"
  refine ⟨by show 5 ≤ sizeLine; decide, fun q5 hq5 => ?_⟩
  refine w_gT5 upd_same ?_
  -- where all lies
  have sf : Same H (upd H f (.tup (IL (List.range R.length)))) := same_new (Same.refl H) hf
  have na := none_old sf ha
  have sa := same_new (o := .lst [.ref f]) sf ha
  have nb := none_old sa hb
  have sb := same_new (o := .lst [.str (S [])]) sa hb
  have nd := none_old sb hd
  have sd := same_mut (o := .dT [(KL (List.range R.length), .int 0)]) (same_new (o := .dT []) sb hd) nd
  have nt := none_old sd ht
  have st := same_new (o := .lst []) sd ht
  have s5 := same_new (o := .tup [.ref a, .ref b, .ref d, .ref t, .int 0]) st hq5
  have ab : a ≠ b := fun e => by
    rw [← e, upd_same] at hb
    cases hb
  have fa : f ≠ a := fun e => by
    rw [← e, upd_same] at ha
    cases ha
  have db : d ≠ b := fun e => by
    rw [e, upd_same] at hd
    cases hd
  have da : d ≠ a := fun e => by
    rw [e, upd_ne ab, upd_same] at hd
    cases hd
  have df : d ≠ f := fun e => by
    rw [e] at hd
    rw [show upd (upd (upd H f (.tup (IL (List.range R.length)))) a (.lst [.ref f])) b (.lst [.str (S [])]) f = _ from up_new hb (up_new ha upd_same)] at hd
    cases hd
  have ea : upd (upd (upd (upd (upd H f (.tup (IL (List.range R.length)))) a (.lst [.ref f])) b (.lst [.str (S [])])) d (.dT [])) d (.dT [(KL (List.range R.length), .int 0)]) a = some (.lst [.ref f]) := by
    rw [upd_ne da.symm, upd_ne da.symm, upd_ne ab, upd_same]
  have eb : upd (upd (upd (upd (upd H f (.tup (IL (List.range R.length)))) a (.lst [.ref f])) b (.lst [.str (S [])])) d (.dT [])) d (.dT [(KL (List.range R.length), .int 0)]) b = some (.lst [.str (S [])]) := by
    rw [upd_ne db.symm, upd_ne db.symm, upd_same]
  have ef2 : upd (upd (upd (upd (upd H f (.tup (IL (List.range R.length)))) a (.lst [.ref f])) b (.lst [.str (S [])])) d (.dT [])) d (.dT [(KL (List.range R.length), .int 0)]) f = some (.tup (IL (List.range R.length))) := by
    rw [upd_ne df.symm]
    exact ef
  have ed : upd (upd (upd (upd (upd H f (.tup (IL (List.range R.length)))) a (.lst [.ref f])) b (.lst [.str (S [])])) d (.dT [])) d (.dT [(KL (List.range R.length), .int 0)]) d = some (.dT [(KL (List.range R.length), .int 0)]) := upd_same
  have at_ : a ≠ t := ne_of_none ea ht
  have bt : b ≠ t := ne_of_none eb ht
  have ap : Apart H a b d t := ⟨ab, at_, bt, na, nb, nd, nt⟩
  have inv : ActsAt R k H a b d t [List.range R.length] [] (upd (upd (upd (upd (upd (upd (upd H f (.tup (IL (List.range R.length)))) a (.lst [.ref f])) b (.lst [.str (S [])])) d (.dT [])) d (.dT [(KL (List.range R.length), .int 0)])) t (.lst [])) q5 (.tup [.ref a, .ref b, .ref d, .ref t, .int 0])) := by
    refine ⟨⟨[f], up_new hq5 (up_new ht ea), rfl, fun i hi => ?_⟩, ⟨[[]], up_new hq5 (up_new ht eb), rfl, fun i hi => ?_⟩, ⟨[], up_new hq5 upd_same, rfl, fun i hi => absurd hi (Nat.not_lt_zero i)⟩, ⟨_, up_new hq5 (up_new ht ed), rfl, fun i x hi => ?_, fun x hx => ?_⟩, s5, fun x hx => ?_⟩
    · have e : i = 0 := by simpa using hi
      subst e
      exact up_new hq5 (up_new ht ef2)
    · have e : i = 0 := by simpa using hi
      subst e
      exact Nat.le_refl _
    · cases i with
      | zero =>
        have e : List.range R.length = x := by simpa using hi
        subst e
        exact valV_pos rfl
      | succ i => simp at hi
    · refine (valV_neg fun e => hx ?_).trans valV_nil
      rw [← KL_inj e]
      exact List.mem_cons_self
    · have e : x = List.range R.length := by simpa using hx
      subst e
      exact ⟨List.length_range, fun y hy => List.mem_range.mp hy⟩
  generalize (upd (upd (upd (upd (upd (upd (upd H f (.tup (IL (List.range R.length)))) a (.lst [.ref f])) b (.lst [.str (S [])])) d (.dT [])) d (.dT [(KL (List.range R.length), .int 0)])) t (.lst [])) q5 (.tup [.ref a, .ref b, .ref d, .ref t, .int 0])) = H1 at inv
  clear ea eb ef ef2 ed s5 st sd sb sa sf hq5 ht hd hb ha hf
  walk_at "u"
  refine ⟨fun m σ H' => ∃ (A T : List (List Nat)) (x7 x8 x9 : Option V), σ = [some (.ref p), some (.ref f), some (.ref a), some (.ref b), some (.ref d), some (.ref t), some (.int (T.length : Nat)), x7, x8, x9] ∧ m = 257 - T.length ∧ Bfs (List Nat) k (actR R) (List.range R.length) A T ∧ ActsAt R k H a b d t A T H',
    ⟨257, [List.range R.length], [], _, _, _, rfl, rfl, Bfs.init, inv⟩, ?_⟩
  rintro m σ Ha ⟨A, T, x7, x8, x9, rfl, rfl, B, st⟩
  obtain ⟨as, ha, al, arow⟩ := id st.ma
  have hcount := acts_count h4 B.nd st.hl
  have hle := bfs_le (R := R) k1 B
  walk_at "u"
  refine w_lenL (SqL.of ha) ?_
  rw [refs_len, al]
  walk_at "u"
  refine w_ite (fun hlt => ?_) fun hge => ?_
  · have hlt : T.length < A.length := by simpa using hlt
    refine ⟨fun σ' H' => ∃ m', m' < 257 - T.length ∧ _, fun _ _ h => h, ?_⟩
    obtain ⟨ts, ht, tl, trow⟩ := id st.mt
    have hrows : ∀ i, i < T.length → (T.getD i []).length = k := fun i hi => by
      have e := List.getElem?_eq_getElem hi
      rw [getD_of e]
      exact (B.rows i _ e).1
    walk_at "u"
    refine ⟨ty_list (SqL.of ht), ?_⟩
    walk_at "u"
    refine ⟨by show 0 ≤ sizeLine; decide, fun u hu => ?_⟩
    walk_at "u"
    have ut : u ≠ t := (ne_of_none ht hu).symm
    obtain ⟨old, ho, ol, mt2⟩ := (st.mt.new (v := .lst []) hu).push_lst (row := []) (q := u) upd_same ut fun i hi e => by
      have := hrows i hi
      rw [e] at this
      simp at this
      omega
    refine w_appL ho (by rw [ol, sizeLine_eq]; omega) ?_
    walk_at "u"
    have bu : But t (upd Ha u (.lst [])) (upd (upd Ha u (.lst [])) t (.lst (old ++ [.ref u]))) := But.at_
    have as0 : as ≠ [] := fun z => by
      rw [z] at al
      simp at al
      omega
    have st2 : ActsAt R k H a b d t A (T ++ [[]]) (upd (upd Ha u (.lst [])) t (.lst (old ++ [.ref u]))) := by
      refine ⟨(st.ma.new hu).but bu ap.at_ fun i hi e => ?_, ?_, mt2, (st.kn.same fun _ _ e => up_new hu e).but bu (dT_ne_lst st.kn ht), same_mut (same_new st.sm hu) ap.nt, st.hl⟩
      · rw [ho] at e
        cases e
      · obtain ⟨ws, hb, w2⟩ := st.wb
        exact ⟨ws, bu _ _ (up_new hu hb) ap.bt, w2⟩
    have au : a ≠ u := ne_of_none ha hu
    have bU : b ≠ u := by
      obtain ⟨ws, hb, _⟩ := st.wb
      exact ne_of_none hb hu
    have du : d ≠ u := by
      obtain ⟨kvs, hd, _⟩ := st.kn
      exact ne_of_none hd hu
    have nu : H u = none := none_old st.sm hu
    have tn : ∃ xs, (upd (upd Ha u (.lst [])) t (.lst (old ++ [.ref u]))) t = some (.lst xs) ∧ atI xs ((T.length : Nat) : Int) = some (.ref u) :=
      ⟨_, upd_same, atI_nat (by rw [List.getElem?_append_right (by omega), ol, Nat.sub_self]; rfl)⟩
    generalize upd (upd Ha u (.lst [])) t (.lst (old ++ [.ref u])) = Hb at st2 tn
    refine w_ixL (SqL.of (st2.sm _ _ hp)) (by exact refs_at (i := 0) (by omega)) ?_
    walk_at "u"
    refine w_lenL (SqL.of (st2.sm _ _ (hrow 0 R1))) ?_
    rw [IL_len, (hr 0 R1).1]
    refine ⟨_, rfl, by omega, by omega, ?_⟩
    have ek : (k : Int).toNat = k := by omega
    rw [ek]
    refine for_fix (fix_rng 0 k) (fun c σ H' => ∃ (A : List (List Nat)) (row : List Nat) (x7 x8 x9 : Option V), σ = [some (.ref p), some (.ref f), some (.ref a), some (.ref b), some (.ref d), some (.ref t), some (.int (T.length : Nat)), x7, x8, x9] ∧ row.length = c ∧ BfsR (List Nat) k (actR R) (List.range R.length) A T row ∧ ActsAt R k H a b d t A (T ++ [row]) H' ∧ ∃ xs, H' t = some (.lst xs) ∧ atI xs ((T.length : Nat) : Int) = some (.ref u))
      ⟨A, [], _, _, _, rfl, rfl, B.start hlt, st2, tn⟩ (fun c σ Hc hc z => ?_) (fun σ Hc z => ?_)
    · clear tn
      obtain ⟨A, row, x7, x8, x9, rfl, rl, B, st, tn⟩ := z
      have hc : c < k := hc
      subst rl
      clear ha al arow as0 ho ol mt2 bu ht tl trow hcount hle hlt hu
      obtain ⟨as, ha, al, arow⟩ := id st.ma
      have hcount := acts_count h4 B.nd st.hl
      have hx : A[T.length]? = some (A.getD T.length []) := by
        have e := List.getElem?_eq_getElem B.lt
        rw [getD_of e]
        exact e
      have hxm := List.mem_of_getElem? hx
      have hxl := st.hl _ hxm
      have harow := arow T.length B.lt
      generalize A.getD T.length [] = x at hx hxl harow
      walk_at "u"
      rw [Int.zero_add]
      refine w_ixL (SqL.of ha) (refs_at (by rw [al]; exact B.lt)) ?_
      refine ⟨_, rfl, ⟨_, SqT.of harow⟩, fun Dl hD => ?_⟩
      refine lc_mapR (fixR_tup G.K _ (IL x)) (fun j => .int (at2 R (x.getD j 0) row.length : Nat)) (by rw [IL_len, hxl.1]; omega) hD (fun H s => SqT.of (s _ _ harow)) (fun _ => rfl) (fun j Hd Qd hj sd kd => ?_) (fun Hd sd ec => ?_)
      · rw [IL_len] at hj
        rw [IL_getD hj]
        have hy := hxl.2 _ (getD_mem hj)
        walk_at "u"
        refine w_ixL (SqL.of (sd _ _ (st.sm _ _ hp))) (refs_at (by omega)) ?_
        walk_at "u"
        refine w_ixL (SqL.of (sd _ _ (st.sm _ _ (hrow _ hy)))) (IL_at (by rw [(hr _ hy).1]; exact hc)) ?_
        exact kd _ (Same.refl _)
      · have er : ((List.range (IL x).length).map fun j => V.int (at2 R (x.getD j 0) row.length : Nat)) = IL (actR R row.length x) := by
          rw [IL_len, actR_eq hxl.2]
          refine (range_map (fun y => V.int (at2 R y row.length : Nat)) x).trans ?_
          unfold IL
          rw [List.map_map]
          rfl
        rw [er] at ec
        refine w_kTupL (SqL.of ec) fun q hq => ?_
        with_reducible refine w_name ?_
        have hyl := actR_ok tf hc hxl
        have sx : Same Hc (upd Hd q (.tup (IL (actR R row.length x)))) := same_new sd hq
        have eq : upd Hd q (.tup (IL (actR R row.length x))) q = some (.tup (IL (actR R row.length x))) := upd_same
        have st3 : ActsAt R k H a b d t A (T ++ [row]) (upd Hd q (.tup (IL (actR R row.length x)))) := by
          refine ⟨st.ma.same sx, ?_, st.mt.same sx, st.kn.same sx, st.sm.trans sx, st.hl⟩
          obtain ⟨ws, hb, w2⟩ := st.wb
          exact ⟨ws, sx _ _ hb, w2⟩
        generalize upd Hd q (.tup (IL (actR R row.length x))) = Hq at eq st3 sx
        have hrk : row.length < k := by omega
        have tn3 : ∃ xs, Hq t = some (.lst xs) ∧ atI xs ((T.length : Nat) : Int) = some (.ref u) := by
          obtain ⟨xs, h1, h2⟩ := tn
          exact ⟨xs, sx _ _ h1, h2⟩
        clear tn
        obtain ⟨xs0, hx0, hat0⟩ := tn3
        have same : ∀ {He : Hp} {u' : Addr} {xs : List V}, He t = some (.lst xs0) → He t = some (.lst xs) → atI xs ((T.length : Nat) : Int) = some (.ref u') → u' = u := fun g h1 h2 => by
          rw [g] at h1
          have e := HO.lst.inj (Option.some.inj h1)
          rw [← e, hat0] at h2
          exact (V.ref.inj (Option.some.inj h2)).symm
        walk_at "u"
        by_cases hy : actR R row.length x ∈ A
        · obtain ⟨j, hj, e⟩ := List.getElem_of_mem hy
          have hj : A[j]? = some (actR R row.length x) := by rw [List.getElem?_eq_getElem hj, e]
          refine ⟨_, rfl, _, rfl, d, _, rfl, st3.kn.get eq hj, ?_⟩
          walk_at "u"
          refine iteF ?_
          with_reducible refine w_next ?_
          refine acts_tail rfl st3.mt st3.kn eq hj hrows hrk k4 fun u' xs h1 h2 hu ut' mt' => ?_
          have e := same hx0 h1 h2
          subst e
          have bq : But u' Hq (upd Hq u' (.lst (IL row ++ [.int (j : Nat)]))) := But.at_
          refine ⟨A, row ++ [j], _, _, _, rfl, by rw [List.length_append]; rfl, B.old hx hj, ⟨st3.ma.but bq au fun i hi e => ?_, ?_, mt', st3.kn.but bq du, same_mut st3.sm nu, st3.hl⟩, xs0, by rw [upd_ne ut'.symm]; exact hx0, hat0⟩
          · rw [hu] at e
            cases e
          · obtain ⟨ws, hb, w2⟩ := st3.wb
            exact ⟨ws, bq _ _ hb bU, w2⟩
        · refine ⟨_, rfl, _, rfl, d, _, rfl, st3.kn.no eq hy, ?_⟩
          walk_at "u"
          refine iteT ?_
          refine acts_new B.lt hcount st3.ma st3.wb st3.mt st3.kn eq hy (by omega) ap.ab ap.at_ ap.bt fun He ke ma' wb' mt' kn' => ?_
          have sm' : Same H He := fun e o h => ke e o (st3.sm _ _ h) (ne_of_none h ap.na) (ne_of_none h ap.nb) (ne_of_none h ap.nd)
          have qa : q ≠ a := fun e => by
            obtain ⟨as', ha', _⟩ := st3.ma
            rw [e, ha'] at eq
            cases eq
          have qb : q ≠ b := fun e => by
            obtain ⟨ws', hb', _⟩ := st3.wb
            rw [e, hb'] at eq
            cases eq
          have eq' := ke _ _ eq qa qb (dT_ne_tup st3.kn eq).symm
          have hx1 := ke _ _ hx0 ap.at_.symm ap.bt.symm (dT_ne_lst st3.kn hx0).symm
          have B' := B.new hx hy
          refine acts_tail rfl mt' kn' eq' get_last hrows hrk k4 fun u' xs h1 h2 hu ut' mt2 => ?_
          have e := same hx1 h1 h2
          subst e
          have bq : But u' He (upd He u' (.lst (IL row ++ [.int (A.length : Nat)]))) := But.at_
          refine ⟨A ++ [actR R row.length x], row ++ [A.length], _, _, _, rfl, by rw [List.length_append]; rfl, B', ⟨ma'.but bq au fun i hi e => ?_, ?_, mt2, kn'.but bq du, same_mut sm' nu, fun z hz => ?_⟩, xs0, by rw [upd_ne ut'.symm]; exact hx1, hat0⟩
          · rw [hu] at e
            cases e
          · obtain ⟨ws, hb, w2⟩ := wb'
            refine ⟨ws, bq _ _ hb bU, ?_⟩
            rw [List.length_append]
            exact w2
          · rcases List.mem_append.mp hz with hz | hz
            · exact st3.hl z hz
            · have : z = actR R row.length x := by simpa using hz
              rw [this]
              exact hyl
    · obtain ⟨A, row, x7, x8, x9, rfl, rl, B, st, _⟩ := z
      have hcount := acts_count h4 B.nd st.hl
      walk_at "u"
      have e : ((T.length : Nat) : Int) + 1 = ((T ++ [row]).length : Nat) := by rw [List.length_append]; rfl
      rw [e]
      have lt := B.lt
      exact ⟨257 - (T ++ [row]).length, by rw [List.length_append]; show 257 - (T.length + 1) < _; omega, A, T ++ [row], _, _, _, rfl, rfl, B.done rl, st⟩
  · have hge : ¬ T.length < A.length := by simpa using hge
    walk_at "u"
    refine ⟨by show 3 ≤ sizeLine; decide, fun q hq => ?_⟩
    exact kQ q a b t A T _ ap.na ap.nt upd_same (st.ma.new hq) (st.mt.new hq) (acts_ok tf B (by omega) hcount fun x hx => (st.hl x hx).1) (same_new st.sm hq)
theorem ok__law_acts (T : Txt G) : FnOk P w G.K G.mg base (L2.CX P w) 1 G.f__law_acts G.d__law_acts ["_law_moves_here"] (sp__law_acts G) := by
  refine T.F__law_acts.okX sc__law_acts (fun _ _ _ _ h => h.1) (fun cdv A outer s H vs Q E hr h => ⟨t__law_acts G (fun cls d _ H => E cls d H), ?_, pure__law_acts T vs H Q E h⟩)
  have tk : Takes (cxOf (L2.CX P w) P w G.K G.mg base ["_law_moves_here", "_law_first", "_law_acts_here", "_law_words_so", "_law_known", "_law_table", "_law_at", "_law_letter", "_law_later", "_law_state"] "_law_acts" (defScope s__law_acts) G.f__law_acts cdv A outer s H E) (fun cls d _ H => E cls d H) := takes_of rfl rfl rfl rfl
  exact (pss_cons (ps_set (i := 1) sc__law_acts.nd rfl (by first | exact Or.inl rfl | exact Or.inr rfl) (pe_tupRg rfl rfl T.n_tuple (prg_1 rfl T.n_range (pe_callB c_len (by rfl) T.n_len PySem.boot_len (pa_cons (pv 0) pa_nil)))))
    (pss_cons (ps_asg (pe_tup (pa_cons (pe_lst (pa_cons (pv 1) pa_nil)) (pa_cons (pe_lst (pa_cons pe_str pa_nil)) (pa_cons (pe_disp1T (hu_of hr) (pv 1) pe_int) (pa_cons (pe_lst pa_nil) (pa_cons pe_int pa_nil)))))) (pg_tup rfl (pgs_cons (pg_name (i := 2) sc__law_acts.nd rfl (by first | exact Or.inl rfl | exact Or.inr rfl)) (pgs_cons (pg_name (i := 3) sc__law_acts.nd rfl (by first | exact Or.inl rfl | exact Or.inr rfl)) (pgs_cons (pg_name (i := 4) sc__law_acts.nd rfl (by first | exact Or.inl rfl | exact Or.inr rfl)) (pgs_cons (pg_name (i := 5) sc__law_acts.nd rfl (by first | exact Or.inl rfl | exact Or.inr rfl)) (pgs_cons (pg_name (i := 6) sc__law_acts.nd rfl (by first | exact Or.inl rfl | exact Or.inr rfl)) pgs_nil)))))))
    (pss_cons (ps_while (passes_of rfl) (pt_cmpR o_ltI (pv 6) (pe_callB c_len (by rfl) T.n_len PySem.boot_len (pa_cons (pv 2) pa_nil)) (nomark _)) (pss_cons (ps_expr (pe_bm PySem.F.plainAttrs_list PySem.F.slot_list_append PySem.F.type_list_append mt_append (pv 5) (pa_cons (pe_lst pa_nil) pa_nil)))
    (pss_cons (ps_for (passes_of rfl) rfl (pi_range1 rfl T.n_range (pa_cons (pe_callB c_len (by rfl) T.n_len PySem.boot_len (pa_cons (pe_ix ix_list (pv 0) pe_int (fun _ _ => rfl)) pa_nil)) pa_nil)) (pg_name (i := 7) sc__law_acts.nd rfl (by first | exact Or.inl rfl | exact Or.inr rfl)) (pss_cons (ps_set (i := 8) sc__law_acts.nd rfl (by first | exact Or.inl rfl | exact Or.inr rfl) (pe_tupleOf rfl T.n_tuple (pe_lc (own := [("_law_state", 9)]) (g := (gName 9)) (tt := tYes) rfl sc__law_acts.nd (pi_tup (pe_ix ix_list (pv 2) (pv 6) (fun _ _ => rfl))) (blkOk_by (N := ["_law_moves_here", "_law_first", "_law_acts_here", "_law_words_so", "_law_known", "_law_table", "_law_at", "_law_letter", "_law_later", "_law_state"]) (sc := defScope s__law_acts) (by decide +kernel)) (fun _ _ _ _ _ => pg_name (i := 9) sc__law_acts.nd rfl (by first | exact Or.inl rfl | exact Or.inr rfl)) (fun _ _ _ _ _ => pts_nil) (fun _ _ _ _ _ => pe_ix ix_list (pe_ix ix_list (pv 0) (pv 9) (fun _ _ => rfl)) (pv 7) (fun _ _ => rfl)))))
    (pss_cons (ps_if (pt_cmp (pc_dnotin (hu_of hr) (pv 8) (pv 4)) (by rfl)) (pss_cons (ps_dput (hu_of hr) (pv 4) (pv 8) (pe_callB c_len (by rfl) T.n_len PySem.boot_len (pa_cons (pv 2) pa_nil)) rfl)
    (pss_cons (ps_expr (pe_bm PySem.F.plainAttrs_list PySem.F.slot_list_append PySem.F.type_list_append mt_append (pv 2) (pa_cons (pv 8) pa_nil)))
    (pss_one (ps_expr (pe_bm PySem.F.plainAttrs_list PySem.F.slot_list_append PySem.F.type_list_append mt_append (pv 3) (pa_cons (pe_op o_addS (pe_ix ix_list (pv 3) (pv 6) (fun _ _ => rfl)) (pe_ix ix_str pe_str (pv 7) (fun _ _ => rfl))) pa_nil)))))) pss_nil)
    (pss_one (ps_expr (pe_bm PySem.F.plainAttrs_list PySem.F.slot_list_append PySem.F.type_list_append mt_append (pe_ix ix_list (pv 5) (pv 6) (fun _ _ => rfl)) (pa_cons (pe_dget (hu_of hr) (pv 4) (pv 8) (fun _ _ => rfl)) pa_nil)))))))
    (pss_one (ps_set (i := 6) sc__law_acts.nd rfl (by first | exact Or.inl rfl | exact Or.inr rfl) (pe_op o_addI (pv 6) pe_int))))))
    (pss_one (ps_ret (pe_tup (pa_cons (pv 2) (pa_cons (pv 3) (pa_cons (pv 5) pa_nil)))))))))

end
end K67

set_option Elab.async false
set_option linter.all false
set_option maxRecDepth 100000
set_option maxHeartbeats 4000000
namespace K67
open PySem PySem.Spec PyProof.Rows L2 LX M67
local macro_rules | `(tactic| walk_at "hp") => `(tactic| first | assumption | exact upd_same | (refine up_new (by assumption) ?_; walk_at "hp") | (refine up_ne (by first | assumption | (exact Ne.symm (by assumption))) ?_; walk_at "hp") | (refine up_mut (by assumption) (by intro z; cases z) ?_; walk_at "hp"))
local macro_rules | `(tactic| walk_at "w1") => `(tactic| first
  | (with_reducible refine w_seq ?_) | (with_reducible refine w_asg ?_) | (with_reducible refine w_name ?_) | (with_reducible refine w_ret ?_) | (with_reducible refine w_drop ?_) | (with_reducible refine w_ifS ?_)
  | (with_reducible refine w_var (by with_unfolding_all exact rfl) ?_) | (with_reducible refine w_c ?_) | (with_reducible refine w_op ?_) | (with_reducible refine w_test ?_) | (with_reducible refine w_B ?_)
  | (with_reducible refine w_bl ?_) | (with_reducible refine w_cons ?_) | (with_reducible refine w_nil ?_) | (with_reducible refine w_cb ?_) | (with_reducible refine w_call ?_) | (with_reducible refine w_callS ?_)
  | (with_reducible refine w_addI ?_) | (with_reducible refine w_subI ?_) | (with_reducible refine w_ltI ?_) | (with_reducible refine w_leI ?_) | (with_reducible refine w_gtI ?_) | (with_reducible refine w_geI ?_)
  | (with_reducible refine w_tAnd ?_) | (with_reducible refine w_tOr ?_) | (with_reducible refine w_tNot ?_) | (with_reducible refine w_andV ?_) | (with_reducible refine w_orV ?_) | (with_reducible refine w_notV ?_) | (with_reducible refine w_if ?_)
  | (with_reducible refine w_un ?_) | (with_reducible refine w_neg ?_) | (with_reducible refine w_intI ?_) | (with_reducible refine w_intB ?_) | (with_reducible refine w_abs ?_)
  | (with_reducible refine w_eq (by with_unfolding_all exact rfl) ?_) | (with_reducible refine w_ne (by with_unfolding_all exact rfl) ?_) | (with_reducible refine w_isNone ?_) | (with_reducible refine w_notNone ?_)
  | (with_reducible refine w_tup ?_) | (with_reducible refine w_lst ?_) | (with_reducible refine w_sl ?_) | (with_reducible refine w_noPart ?_) | (with_reducible refine w_part ?_) | (with_reducible refine w_partI ?_)
  | (with_reducible refine w_fld0 ?_) | (with_reducible refine w_rz ?_)
  | (with_reducible refine w_next ?_) | (with_reducible refine w_brk ?_) | (with_reducible refine w_cont ?_) | (with_reducible refine w_retN ?_))
local macro_rules | `(tactic| walk_at "w") => `(tactic| repeat walk_at "w1")
local macro_rules | `(tactic| walk_at "u1") => `(tactic| first | walk_at "w1" | (with_reducible refine w_gsub ?_) | (with_reducible refine w_par ?_) | (with_reducible refine w_par3 ?_) | (with_reducible refine w_pr2 ?_) | (with_reducible refine w_pr3 ?_) | (with_reducible refine w_then ?_) | (with_reducible refine w_for ?_) | (with_reducible refine w_rng1 ?_) | (with_reducible refine w_enumS ?_) | (with_reducible refine w_iList ?_) | (with_reducible refine w_iTup ?_) | (with_reducible refine w_iStr ?_) | (with_reducible refine w_make ?_) | (with_reducible refine w_lc ?_) | (with_reducible refine w_iEnum ?_) | (with_reducible refine w_iEnumT ?_) | (with_reducible refine w_chain ?_) | (with_reducible refine w_bm ?_))
local macro_rules | `(tactic| walk_at "u") => `(tactic| repeat walk_at "u1")
section
variable {P : Program} {w : World} {base : Heap} {G : Gx}
/-! words that are refused -/
def OddV (G : Gx) (H : Hp) (v : V) (k : Nat) : Prop := BadW G H v k ∧ ∀ H', Same H H' → ∃ t, ReprT G.K H' v t
theorem OddV.same {H H' : Hp} {v : V} {k : Nat} (h : OddV G H v k) (s : Same H H') : OddV G H' v k := ⟨h.1.same s, fun H2 s2 => h.2 H2 (s.trans s2)⟩
theorem odd_text {H : Hp} {l : List Nat} {k : Nat} (h1 : l.length ≤ 1000) (h2 : ∀ c ∈ l, c < 1000) (h3 : 300 < l.length ∨ ∃ c ∈ l, c ∉ sg k) : OddV G H (.str (S l)) k := by
  refine ⟨.inr ⟨l, rfl, by omega, h2, h3⟩, fun H' _ => ⟨_, .str _ ?_⟩⟩
  have h := PySem.StrLaws.reprText_len (S l) fun c hc => by
    rw [S_cps] at hc
    have := h2 c hc
    have e : (1000 : Nat) < 16 ^ 8 := by decide
    omega
  rw [S_len] at h
  rw [sizeLine_eq]
  omega
theorem odd_none {H : Hp} {k : Nat} : OddV G H .non k := ⟨.inl ⟨_, .base .non, by decide +kernel⟩, fun H' _ => ⟨_, .non⟩⟩
theorem odd_int {H : Hp} {k : Nat} (i : Int) (h : i.natAbs.log2 < 1920) : OddV G H (.int i) k := ⟨.inl ⟨_, .base (.int i), by decide +kernel⟩, fun H' _ => ⟨_, .int i h⟩⟩
theorem odd_bool {H : Hp} {k : Nat} (b : Bool) : OddV G H (.bl b) k := ⟨.inl ⟨_, .base (.bl b), by decide +kernel⟩, fun H' _ => ⟨_, .bl b⟩⟩
theorem odd_list {H : Hp} {k : Nat} {a : Addr} (h : H a = some (.lst [.str "a"])) : OddV G H (.ref a) k := ⟨.inl ⟨_, .base (.lst h), by decide +kernel⟩, fun H' s => ⟨_, .ref (.lst (SqL.of (s _ _ h)) (.cons (.str _) .nil)) (by decide +kernel) (by decide +kernel) (by decide +kernel) (by decide +kernel)⟩⟩
theorem odd_tup {H : Hp} {k : Nat} {a : Addr} (h : H a = some (.tup [.str "a", .str "b"])) : OddV G H (.ref a) k := ⟨.inl ⟨_, .base (.tup h), by decide +kernel⟩, fun H' s => ⟨_, .ref (.tup (SqT.of (s _ _ h)) (.cons (.str _) (.cons (.str _) .nil))) (by decide +kernel) (by decide +kernel) (by decide +kernel) (by decide +kernel)⟩⟩
theorem odd_dict {H : Hp} {k : Nat} {a : Addr} (h : H a = some (.dK [])) : OddV G H (.ref a) k := ⟨.inl ⟨_, .base (.dK h), by decide +kernel⟩, fun H' s => ⟨_, .dict0 (s _ _ h)⟩⟩
def sp__law_refused (G : Gx) : Sp := fun vs H Q _ => vs.length = 2 ∧ ∃ (x : Addr) (v : V) (R : List (List Nat)) (s k : Nat) (out : List Int), vs = [.ref x, v] ∧ ThingAt G H x R s out ∧ TabF R k ∧ s < R.length ∧ OddV G H v k ∧ ∀ H', Same H H' → Q (.bl true) H'
def t__law_refused (G : Gx) (W : WX) : TS :=
  tSeq (tTry G.K (fun _ _ _ _ => False) (⟨.ref G.c_NoWord, some 2, fun a cls d => tRet (tAndV (tOp rEq (tCB (rRepr G.K) (tCons (tXf a cls d G.c_NoWord "word" (tVar 2)) tNil)) (tCB (rRepr G.K) (tCons (tVar 1) tNil))) (tOp rEq (tXm a cls d G.c_NoWord "told" (sp_NoWord_told G) (tVar 2)) (tC (.str "refused noword"))))⟩ :: ⟨.ref G.c_FoldError, none, fun a cls d => tRet (tC (.bl false))⟩ :: []) (fun W => tDrop (tCallS (sp_accepts G) (WE W) (tCons (tVar 0) (tCons (tVar 1) tNil)))))
  (tRet (tC (.bl false)))
theorem told_word (v : V) : List.lookup ("told" : Str) [(("word" : Str), v)] = none := by
  have e : (("told" : Str) == ("word" : Str)) = false := by decide +kernel
  show (match ("told" : Str) == ("word" : Str) with | true => some v | false => List.lookup ("told" : Str) []) = none
  rw [e]
  rfl
theorem pure__law_refused (T : Txt G) (vs : List V) (H : Hp) (Q : VK) (E : XK) (h : sp__law_refused G vs H Q E) : t__law_refused G (fun cls d _ H => E cls d H) { nx := fun _ H' => Q .non H', rt := Q } (start ["_law_thing", "_law_word", "e"] vs) H := by
  obtain ⟨_, x, v, R, s, k, out, rfl, th, tf, hs, ⟨bad, rep⟩, kQ⟩ := h
  unfold t__law_refused
  with_reducible refine w_seq ?_
  show tDrop _ _ _ _
  walk_at "u"
  refine ⟨rfl, x, v, R, s, k, out, rfl, th, tf, hs, .inr ⟨bad, fun e H1 he s1 => ?_⟩⟩
  refine ⟨true, T.exm_NoWord_NoWord, fun _ a na => ?_, fun q => nomatch q⟩
  dsimp only
  walk_at "u"
  obtain ⟨t, ht⟩ := rep H1 s1
  refine ⟨.ref a, rfl, rfl, rfl, e, _, v, rfl, he, by simp [List.lookup], ?_⟩
  walk_at "u"
  refine ⟨_, t, rfl, ht, ?_⟩
  walk_at "u"
  refine ⟨_, t, rfl, ht, ?_⟩
  walk_at "u"
  rw [decide_eq_true rfl]
  rw [if_pos rfl]
  walk_at "u"
  refine ⟨.ref a, rfl, rfl, rfl, ⟨e, _, rfl, he, told_word v⟩, rfl, ?_⟩
  walk_at "u"
  rw [decide_eq_true rfl]
  exact kQ _ s1
theorem ok__law_refused (T : Txt G) : FnG (RoomG 5) P w G.K G.mg base (L2.CX P w) G.f__law_refused G.d__law_refused ["_law_thing", "_law_word"] (sp__law_refused G) := by
  refine fnG (R' := RoomG 4) T.F__law_refused sc__law_refused RoomG.ok (fun A env r => r.deeper env) (fun _ _ _ _ h => h.1) (fun cdv A outer s H vs Q E hr h => ⟨t__law_refused G (fun cls d _ H => E cls d H), ?_, pure__law_refused T vs H Q E h⟩)
  have tk : Takes (cxOf (L2.CX P w) P w G.K G.mg base ["_law_thing", "_law_word", "e"] "_law_refused" (defScope s__law_refused) G.f__law_refused cdv A outer s H E) (fun cls d _ H => E cls d H) := takes_of rfl rfl rfl rfl
  exact (pss_cons (ps_try (tb := fun W => tDrop (tCallS (sp_accepts G) (WE W) (tCons (tVar 0) (tCons (tVar 1) tNil)))) (l := ⟨.ref G.c_NoWord, some 2, fun a cls d => tRet (tAndV (tOp rEq (tCB (rRepr G.K) (tCons (tXf a cls d G.c_NoWord "word" (tVar 2)) tNil)) (tCB (rRepr G.K) (tCons (tVar 1) tNil))) (tOp rEq (tXm a cls d G.c_NoWord "told" (sp_NoWord_told G) (tVar 2)) (tC (.str "refused noword"))))⟩ :: ⟨.ref G.c_FoldError, none, fun a cls d => tRet (tC (.bl false))⟩ :: []) rfl rfl takes0 (fun W pn xe tk po => (pss_one (ps_expr (pe_callS (ok_accepts T) (hr.room.mono (by decide)) rfl T.g_accepts T.F_accepts.kp T.b_accepts (fun σ => passAt tk σ) (pa_cons (pv 0) (pa_cons (pv 1) pa_nil)))))) (ClsOk.named (i := 2) sc__law_refused.nd rfl rfl ⟨rfl, by decide, .inl T.gc_NoWord⟩ (fun a oe cls d pn hz hf => (pss_one (ps_ret (pe_and (pe_cmpR op_eq (pe_callB (c_repr hr.gs (units_suite (hu64 hr.room))) (by rfl) T.n_repr (by decide +kernel) (pa_cons (pe_xf T.xf_NoWord T.no_NoWord_word hz hf (pv 2)) pa_nil)) (pe_callB (c_repr hr.gs (units_suite (hu64 hr.room))) (by rfl) T.n_repr (by decide +kernel) (pa_cons (pv 1) pa_nil)) (nomark _)) (pe_one (pe_cmpR op_eq (pe_xm0 T.xf_NoWord T.xm_NoWord_told hz hf (ok_NoWord_told T) (suiteH (hr.room.mono (by decide))) T.b_NoWord_told (pv 2)) pe_str (nomark _))))))) (ClsOk.plain ⟨rfl, by decide, .inl T.gc_FoldError⟩ (fun a oe cls d pn hz hf => (pss_one (ps_ret pe_bl))) ClsOk.nil)))
    (pss_one (ps_ret pe_bl)))

end
end K67

set_option Elab.async false
set_option linter.all false
set_option maxRecDepth 100000
set_option maxHeartbeats 4000000
namespace K67
open PySem PySem.Spec PyProof.Rows L2 LX M67
local macro_rules | `(tactic| walk_at "hp") => `(tactic| first | assumption | exact upd_same | (refine up_new (by assumption) ?_; walk_at "hp") | (refine up_ne (by first | assumption | (exact Ne.symm (by assumption))) ?_; walk_at "hp") | (refine up_mut (by assumption) (by intro z; cases z) ?_; walk_at "hp"))
local macro_rules | `(tactic| walk_at "w1") => `(tactic| first
  | (with_reducible refine w_seq ?_) | (with_reducible refine w_asg ?_) | (with_reducible refine w_name ?_) | (with_reducible refine w_ret ?_) | (with_reducible refine w_drop ?_) | (with_reducible refine w_ifS ?_)
  | (with_reducible refine w_var (by with_unfolding_all exact rfl) ?_) | (with_reducible refine w_c ?_) | (with_reducible refine w_op ?_) | (with_reducible refine w_test ?_) | (with_reducible refine w_B ?_)
  | (with_reducible refine w_bl ?_) | (with_reducible refine w_cons ?_) | (with_reducible refine w_nil ?_) | (with_reducible refine w_cb ?_) | (with_reducible refine w_call ?_) | (with_reducible refine w_callS ?_)
  | (with_reducible refine w_addI ?_) | (with_reducible refine w_subI ?_) | (with_reducible refine w_ltI ?_) | (with_reducible refine w_leI ?_) | (with_reducible refine w_gtI ?_) | (with_reducible refine w_geI ?_)
  | (with_reducible refine w_tAnd ?_) | (with_reducible refine w_tOr ?_) | (with_reducible refine w_tNot ?_) | (with_reducible refine w_andV ?_) | (with_reducible refine w_orV ?_) | (with_reducible refine w_notV ?_) | (with_reducible refine w_if ?_)
  | (with_reducible refine w_un ?_) | (with_reducible refine w_neg ?_) | (with_reducible refine w_intI ?_) | (with_reducible refine w_intB ?_) | (with_reducible refine w_abs ?_)
  | (with_reducible refine w_eq (by with_unfolding_all exact rfl) ?_) | (with_reducible refine w_ne (by with_unfolding_all exact rfl) ?_) | (with_reducible refine w_isNone ?_) | (with_reducible refine w_notNone ?_)
  | (with_reducible refine w_tup ?_) | (with_reducible refine w_lst ?_) | (with_reducible refine w_sl ?_) | (with_reducible refine w_noPart ?_) | (with_reducible refine w_part ?_) | (with_reducible refine w_partI ?_)
  | (with_reducible refine w_fld0 ?_) | (with_reducible refine w_rz ?_)
  | (with_reducible refine w_next ?_) | (with_reducible refine w_brk ?_) | (with_reducible refine w_cont ?_) | (with_reducible refine w_retN ?_))
local macro_rules | `(tactic| walk_at "w") => `(tactic| repeat walk_at "w1")
local macro_rules | `(tactic| walk_at "u1") => `(tactic| first | walk_at "w1" | (with_reducible refine w_gsub ?_) | (with_reducible refine w_par ?_) | (with_reducible refine w_par3 ?_) | (with_reducible refine w_pr2 ?_) | (with_reducible refine w_pr3 ?_) | (with_reducible refine w_then ?_) | (with_reducible refine w_for ?_) | (with_reducible refine w_rng1 ?_) | (with_reducible refine w_enumS ?_) | (with_reducible refine w_iList ?_) | (with_reducible refine w_iTup ?_) | (with_reducible refine w_iStr ?_) | (with_reducible refine w_make ?_) | (with_reducible refine w_lc ?_) | (with_reducible refine w_iEnum ?_) | (with_reducible refine w_iEnumT ?_) | (with_reducible refine w_chain ?_) | (with_reducible refine w_bm ?_))
local macro_rules | `(tactic| walk_at "u") => `(tactic| repeat walk_at "u1")
section
variable {P : Program} {w : World} {base : Heap} {G : Gx}
/-! _law_right: its parts -/
theorem w_cutN {t1 t2 : TS} {D : Ends} {σ : L2.St} {H : Hp} (h : ∀ N : L2.St → Hp → Prop, N = t2 D → t1 { D with nx := N } σ H) : tSeq t1 t2 D σ H := h _ rfl
/-- a list that is no tree of a monoid -/
def NoTree (H : Hp) (s : Addr) : Prop := ∃ xs : List V, H s = some (.lst xs) ∧ ∀ r, xs ≠ .non :: r
theorem SrcAt.noTree {H : Hp} {s : Addr} (h : SrcAt H s) : NoTree H s := by
  obtain ⟨a, b, c, e⟩ := h
  exact ⟨_, e, fun r z => nomatch z⟩
theorem refs_noTree {H : Hp} {s : Addr} {xs : List Addr} (h : H s = some (.lst (xs.map V.ref))) : NoTree H s := ⟨_, h, fun r z => by
  cases xs with
  | nil => cases z
  | cons x xs => cases z⟩
theorem But.at0 {s x : Addr} {H H' : Hp} {o : HO} (hs : NoTree H s) (b : But s H H') (h : H x = some o) (ne : ∀ xs : List V, o = .lst xs → ∃ r, xs = .non :: r) : H' x = some o := b x o h fun e => by
  obtain ⟨xs, hs, hx⟩ := hs
  rw [e, hs] at h
  obtain ⟨r, er⟩ := ne xs (Option.some.inj h).symm
  exact hx r er
theorem Mat.butT {s p : Addr} {H H' : Hp} {R : List (List Nat)} (hs : NoTree H s) (b : But s H H') (m : Mat .tup .tup H p R) : Mat .tup .tup H' p R := by
  obtain ⟨ps, h1, h2, h3⟩ := m
  exact ⟨ps, But.at0 hs b h1 (fun _ z => nomatch z), h2, fun i hi => But.at0 hs b (h3 i hi) (fun _ z => nomatch z)⟩
theorem AutAt.but {s x : Addr} {H H' : Hp} {R : List (List Nat)} {s0 : Nat} {out : List Int} (hs : NoTree H s) (b : But s H H') (h : AutAt G H x R s0 out) : AutAt G H' x R s0 out := by
  obtain ⟨dx, p, q, d, h1, h2, h3⟩ := h
  exact ⟨dx, p, q, d, But.at0 hs b h1 (fun _ z => nomatch z), Mat.butT hs b h2, But.at0 hs b h3 (fun _ z => nomatch z)⟩
theorem MonAt.but {s x : Addr} {H H' : Hp} {R : List (List Nat)} (hs : NoTree H s) (b : But s H H') (h : MonAt G H x R) : MonAt G H' x R := by
  obtain ⟨dx, p, t, q, d, h1, h2, ⟨qs, t1, t2, t3⟩, h4, h5⟩ := h
  exact ⟨dx, p, t, q, d, But.at0 hs b h1 (fun _ z => nomatch z), Mat.butT hs b h2, ⟨qs, But.at0 hs b t1 (fun _ z => ⟨_, (HO.lst.inj z).symm⟩), t2, fun j hj => But.at0 hs b (t3 j hj) (fun _ z => nomatch z)⟩, Mat.butT hs b h4, But.at0 hs b h5 (fun _ z => nomatch z)⟩
theorem LangAt.but {s x : Addr} {H H' : Hp} {R : List (List Nat)} {out : List Int} (hs : NoTree H s) (b : But s H H') (h : LangAt G H x R out) : LangAt G H' x R out := by
  obtain ⟨dx, m, q, d, h1, h2, h3⟩ := h
  exact ⟨dx, m, q, d, But.at0 hs b h1 (fun _ z => nomatch z), h2.but hs b, But.at0 hs b h3 (fun _ z => nomatch z)⟩
/-- a thing that has the words that the plan leads to a marked state -/
def ThingOk (G : Gx) (H : Hp) (x : Addr) (R : List (List Nat)) (k s0 : Nat) (ms : List Nat) : Prop := ∃ (R' : List (List Nat)) (s' : Nat) (out : List Int), ThingAt G H x R' s' out ∧ TabF R' k ∧ s' < R'.length ∧
  ∀ l, (∀ c ∈ l, c ∈ sg k) → decide (((run R' s' l : Nat) : Int) ∈ out) = decide (run R s0 l ∈ ms)
theorem ThingOk.same {H H' : Hp} {x : Addr} {R : List (List Nat)} {k s0 : Nat} {ms : List Nat} (h : ThingOk G H x R k s0 ms) (s : Same H H') : ThingOk G H' x R k s0 ms := by
  obtain ⟨R', s', out, h1, h2⟩ := h
  exact ⟨R', s', out, h1.keep s, h2⟩
theorem ThingOk.but {s : Addr} {H H' : Hp} {x : Addr} {R : List (List Nat)} {k s0 : Nat} {ms : List Nat} (hs : NoTree H s) (b : But s H H') (h : ThingOk G H x R k s0 ms) : ThingOk G H' x R k s0 ms := by
  obtain ⟨R', s', out, h1, h2⟩ := h
  exact ⟨R', s', out, h1.imp (fun z => z.but hs b) (fun z => ⟨z.1.but hs b, z.2⟩), h2⟩
theorem mem_out {out : List Int} {ms : List Nat} (h : Sorted out ms) (n : Nat) : decide (((n : Nat) : Int) ∈ out) = decide (n ∈ ms) := by
  refine decide_eq_decide.mpr ⟨fun z => ?_, fun z => (h.2 _).mpr ⟨n, z, rfl⟩⟩
  obtain ⟨m, hm, e⟩ := (h.2 _).mp z
  have : n = m := by omega
  exact this ▸ hm
theorem thing_aut {H : Hp} {x : Addr} {R : List (List Nat)} {k s0 : Nat} {ms : List Nat} {out : List Int} (h : AutAt G H x R s0 out) (tf : TabF R k) (hs : s0 < R.length) (so : Sorted out ms) : ThingOk G H x R k s0 ms := ⟨R, s0, out, .inl h, tf, hs, fun l _ => mem_out so _⟩
/-- which acts lead the first state to a marked one -/
def marksOf (A : List (List Nat)) (s0 : Nat) (ms : List Nat) (n : Nat) : List Nat := (List.range n).filter fun i => decide ((A.getD i []).getD s0 0 ∈ ms)
theorem ActsOk.tabF {R A T : List (List Nat)} {k : Nat} (h : ActsOk R k A T) (k4 : k ≤ 4) : TabF T k := by
  obtain ⟨⟨h1, h2, h3, _, h5⟩, _⟩ := h
  exact ⟨h1, h2, h3, k4, h5⟩
theorem thing_lang {H : Hp} {x : Addr} {R A T : List (List Nat)} {k s0 : Nat} {ms : List Nat} {out : List Int} (ao : ActsOk R k A T) (k4 : k ≤ 4) (h : LangAt G H x T out) (hs : s0 < R.length) (so : Sorted out (marksOf A s0 ms A.length)) : ThingOk G H x R k s0 ms := by
  have tf := ao.tabF k4
  obtain ⟨_, _, len, _, _, hrun⟩ := ao
  refine ⟨T, 0, out, .inr ⟨h, rfl⟩, tf, tf.1, fun l hl => ?_⟩
  rw [mem_out so]
  have lt := tf.run_lt l 0 tf.1 hl
  refine decide_eq_decide.mpr ⟨fun z => ?_, fun z => ?_⟩
  · have := (List.mem_filter.mp z).2
    rw [hrun l s0 hl hs] at this
    simpa using this
  · refine List.mem_filter.mpr ⟨List.mem_range.mpr (by omega), ?_⟩
    rw [hrun l s0 hl hs]
    simpa using z
theorem sorted_uniq : ∀ {a b : List Int}, a.Pairwise (· < ·) → b.Pairwise (· < ·) → (∀ k, k ∈ a ↔ k ∈ b) → a = b
  | [], [], _, _, _ => rfl
  | [], y :: b, _, _, h => absurd ((h y).mpr List.mem_cons_self) (fun z => nomatch z)
  | x :: a, [], _, _, h => absurd ((h x).mp List.mem_cons_self) (fun z => nomatch z)
  | x :: a, y :: b, pa, pb, h => by
    rw [List.pairwise_cons] at pa pb
    have e : x = y := by
      rcases List.mem_cons.mp ((h x).mp List.mem_cons_self) with e | e
      · exact e
      · rcases List.mem_cons.mp ((h y).mpr List.mem_cons_self) with e2 | e2
        · exact e2.symm
        · have h1 := pb.1 x e
          have h2 := pa.1 y e2
          omega
    subst e
    have e2 : a = b := sorted_uniq pa.2 pb.2 fun k => by
      constructor
      · intro hk
        rcases List.mem_cons.mp ((h k).mp (List.mem_cons_of_mem _ hk)) with e | e
        · have := pa.1 k hk
          omega
        · exact e
      · intro hk
        rcases List.mem_cons.mp ((h k).mpr (List.mem_cons_of_mem _ hk)) with e | e
        · have := pb.1 k hk
          omega
        · exact e
    rw [e2]
theorem sorted_eq {a b : List Int} {ms : List Nat} (ha : Sorted a ms) (hb : Sorted b ms) : a = b := sorted_uniq ha.1 hb.1 fun k => by rw [ha.2, hb.2]
/-- [k for k, act in enumerate(acts) if act[first] in marked] -/
theorem lc_marks {σ : L2.St} {H1 : Hp} {Dl a10 a : Addr} {A : List (List Nat)} {s0 n : Nat} {ms : List Nat} {as : List Addr} {Qd : Hp → Prop} (h10 : H1 a10 = some (.lst (as.map V.ref))) (al : as.length = A.length) (hrow : ∀ i, i < A.length → H1 (as.getD i 0) = some (.tup (IL (A.getD i [])))) (hA : ∀ x ∈ A, x.length = n) (hs : s0 < n) (hA2 : A.length ≤ 256) (ha : H1 a = some (.lst (IL ms)))
    (h6 : ∀ x y, (((wipe σ [17, 18]).set 17 (some x)).set 18 (some y))[6]? = some (some (.int s0))) (h7 : ∀ x y, (((wipe σ [17, 18]).set 17 (some x)).set 18 (some y))[7]? = some (some (.ref a))) (h17 : ∀ x y, (((wipe σ [17, 18]).set 17 (some x)).set 18 (some y))[17]? = some (some x)) (h18 : ∀ x y, (((wipe σ [17, 18]).set 17 (some x)).set 18 (some y))[18]? = some (some y))
    (hw : ∀ x y, wipe (((wipe σ [17, 18]).set 17 (some x)).set 18 (some y)) [17, 18] = wipe σ [17, 18]) (hD : H1 Dl = none) (hd : ∀ H, Same H1 H → H Dl = some (.lst (IL (marksOf A s0 ms A.length))) → Qd H) :
    ∃ W : Nat → Nat → Hp → Prop, (∃ m, W 0 m (upd H1 Dl (.lst []))) ∧ ∀ k m H, W k m H →
      ((Ite G.K a10).stop k H ∧ Qd H) ∨ ((Ite G.K a10).go k H ∧ ∃ Nx : Hp → Prop, (∀ H', Nx H' → ∃ m', m' < m ∧ W (k + 1) m' H') ∧ ∀ x H', (Ite G.K a10).yld k H x H' → gTup G.K 2 (gCons (gName 17) (gCons (gName 18) gNil)) x (wipe σ [17, 18]) H' fun σ2 H2 => wipe σ2 [17, 18] = wipe σ [17, 18] ∧ tTest (tOp (rIn G.K false) (tOp (rIxT G.K) (tVar 18) (tVar 6)) (tVar 7)) σ2 H2 fun b H3 =>
        if b = true then tVar 17 σ2 H3 fun y H4 => ∃ acc, H4 Dl = some (.lst acc) ∧ acc.length < sizeLine ∧ Nx (upd H4 Dl (.lst (acc ++ [y]))) else Nx H3) := by
  refine lc_enR (enR_list G.K a10 (as.map V.ref)) (fun i H => Same H1 H ∧ H Dl = some (.lst (IL (marksOf A s0 ms i)))) (fun i H z => SqL.of (z.1 _ _ h10)) ⟨same_new (Same.refl H1) hD, upd_same⟩ (fun i H Tn hi z nT => ?_) (fun H z => ?_)
  · obtain ⟨s, ex⟩ := z
    rw [refs_len, al] at hi
    rw [refs_getD (by omega)]
    refine w_gT2 upd_same ⟨hw _ _, ?_⟩
    have hm : A.getD i [] ∈ A := by
      rw [List.getD_eq_getElem?_getD, List.getElem?_eq_getElem hi]
      exact List.getElem_mem hi
    have st : Same H1 (upd H Tn (.tup [.int (i : Nat), .ref (as.getD i 0)])) := same_new s nT
    have ex2 : upd H Tn (.tup [.int (i : Nat), .ref (as.getD i 0)]) Dl = _ := up_new nT ex
    generalize upd H Tn (.tup [.int (i : Nat), .ref (as.getD i 0)]) = Hx at st ex2
    walk_at "u"
    refine ⟨_, h18 _ _, _, h6 _ _, ?_⟩
    refine w_ixT (SqT.of (st _ _ (hrow i hi))) (IL_at (by rw [hA _ hm]; exact hs)) ?_
    refine ⟨_, h7 _ _, ?_⟩
    refine w_inL (SqL.of (st _ _ ha)) rfl (flat_IL ms) ?_
    rw [if_neg Bool.false_ne_true, inV_IL]
    refine ⟨_, rfl, ?_⟩
    have em : marksOf A s0 ms (i + 1) = marksOf A s0 ms i ++ if decide ((A.getD i []).getD s0 0 ∈ ms) = true then [i] else [] := by
      unfold marksOf
      rw [List.range_succ, List.filter_append]
      congr 1
      rw [List.filter_cons, List.filter_nil]
    have hlen : (marksOf A s0 ms i).length ≤ i := Nat.le_trans (List.length_filter_le _ _) (by simp)
    refine w_ite (fun hb => ?_) fun hb => ?_
    · refine ⟨_, h17 _ _, _, ex2, by rw [IL_len, sizeLine_eq]; omega, same_mut st hD, ?_⟩
      rw [upd_same, em, if_pos (by simpa using hb), IL_app]
      rfl
    · refine ⟨st, ?_⟩
      rw [ex2, em, if_neg (by simpa using hb), List.append_nil]
  · obtain ⟨s, ex⟩ := z
    rw [refs_len, al] at ex
    exact hd H s ex
theorem glue_all : ∀ (r acc : List Nat), (r.map fun c => S [c]).foldl (fun acc p => acc ++ (S []).cps ++ p.cps) acc.toArray = (acc ++ r).toArray
  | [], acc => by simp
  | c :: r, acc => by
    rw [List.map_cons, List.foldl_cons]
    have e : acc.toArray ++ (S []).cps ++ (S [c]).cps = (acc ++ [c]).toArray := by
      show acc.toArray ++ ([] : List Nat).toArray ++ [c].toArray = _
      simp
    rw [e, glue_all r]
    simp
theorem join_S (cs : List Nat) : Txt.join (S []) (cs.map fun c => S [c]) = S cs := by
  cases cs with
  | nil => rfl
  | cons c r =>
    have h := glue_all r [c]
    unfold Txt.join Builtin.Str.glued
    show (⟨((r.map fun c => S [c])).foldl (fun acc p => acc ++ (S []).cps ++ p.cps) [c].toArray⟩ : Str) = _
    rw [h]
    rfl

end
end K67

set_option Elab.async false
set_option linter.all false
set_option maxRecDepth 100000
set_option maxHeartbeats 4000000
namespace K67
open PySem PySem.Spec PyProof.Rows L2 LX M67
local macro_rules | `(tactic| walk_at "hp") => `(tactic| first | assumption | exact upd_same | (refine up_new (by assumption) ?_; walk_at "hp") | (refine up_ne (by first | assumption | (exact Ne.symm (by assumption))) ?_; walk_at "hp") | (refine up_mut (by assumption) (by intro z; cases z) ?_; walk_at "hp"))
local macro_rules | `(tactic| walk_at "w1") => `(tactic| first
  | (with_reducible refine w_seq ?_) | (with_reducible refine w_asg ?_) | (with_reducible refine w_name ?_) | (with_reducible refine w_ret ?_) | (with_reducible refine w_drop ?_) | (with_reducible refine w_ifS ?_)
  | (with_reducible refine w_var (by with_unfolding_all exact rfl) ?_) | (with_reducible refine w_c ?_) | (with_reducible refine w_op ?_) | (with_reducible refine w_test ?_) | (with_reducible refine w_B ?_)
  | (with_reducible refine w_bl ?_) | (with_reducible refine w_cons ?_) | (with_reducible refine w_nil ?_) | (with_reducible refine w_cb ?_) | (with_reducible refine w_call ?_) | (with_reducible refine w_callS ?_)
  | (with_reducible refine w_addI ?_) | (with_reducible refine w_subI ?_) | (with_reducible refine w_ltI ?_) | (with_reducible refine w_leI ?_) | (with_reducible refine w_gtI ?_) | (with_reducible refine w_geI ?_)
  | (with_reducible refine w_tAnd ?_) | (with_reducible refine w_tOr ?_) | (with_reducible refine w_tNot ?_) | (with_reducible refine w_andV ?_) | (with_reducible refine w_orV ?_) | (with_reducible refine w_notV ?_) | (with_reducible refine w_if ?_)
  | (with_reducible refine w_un ?_) | (with_reducible refine w_neg ?_) | (with_reducible refine w_intI ?_) | (with_reducible refine w_intB ?_) | (with_reducible refine w_abs ?_)
  | (with_reducible refine w_eq (by with_unfolding_all exact rfl) ?_) | (with_reducible refine w_ne (by with_unfolding_all exact rfl) ?_) | (with_reducible refine w_isNone ?_) | (with_reducible refine w_notNone ?_)
  | (with_reducible refine w_tup ?_) | (with_reducible refine w_lst ?_) | (with_reducible refine w_sl ?_) | (with_reducible refine w_noPart ?_) | (with_reducible refine w_part ?_) | (with_reducible refine w_partI ?_)
  | (with_reducible refine w_fld0 ?_) | (with_reducible refine w_rz ?_)
  | (with_reducible refine w_next ?_) | (with_reducible refine w_brk ?_) | (with_reducible refine w_cont ?_) | (with_reducible refine w_retN ?_))
local macro_rules | `(tactic| walk_at "w") => `(tactic| repeat walk_at "w1")
local macro_rules | `(tactic| walk_at "u1") => `(tactic| first | walk_at "w1" | (with_reducible refine w_gsub ?_) | (with_reducible refine w_par ?_) | (with_reducible refine w_par3 ?_) | (with_reducible refine w_pr2 ?_) | (with_reducible refine w_pr3 ?_) | (with_reducible refine w_then ?_) | (with_reducible refine w_for ?_) | (with_reducible refine w_rng1 ?_) | (with_reducible refine w_enumS ?_) | (with_reducible refine w_iList ?_) | (with_reducible refine w_iTup ?_) | (with_reducible refine w_iStr ?_) | (with_reducible refine w_make ?_) | (with_reducible refine w_lc ?_) | (with_reducible refine w_iEnum ?_) | (with_reducible refine w_iEnumT ?_) | (with_reducible refine w_chain ?_) | (with_reducible refine w_bm ?_))
local macro_rules | `(tactic| walk_at "u") => `(tactic| repeat walk_at "u1")
section
variable {P : Program} {w : World} {base : Heap} {G : Gx}
/-! _law_right: long words, its loops -/
abbrev SG (s q : Addr) (k : Nat) (x3 x4 : Option V) (p : Addr) (s0 : Nat) (a x t9 : Addr) (x10 x11 x12 x13 x14 : Option V) : L2.St :=
  [some (.ref s), some (.ref q), some (.int k), x3, x4, some (.ref p), some (.int s0), some (.ref a), some (.ref x), some (.ref t9), x10, x11, x12, x13, x14, none, none, none, none]
theorem sum_ones : ∀ cs : List Nat, ((cs.map fun c => S [c]).map (·.length)).sum = cs.length
  | [] => rfl
  | c :: cs => by
    rw [List.map_cons, List.map_cons, List.sum_cons, sum_ones cs, S_len]
    show 1 + cs.length = cs.length + 1
    omega
theorem sg_ne {k : Nat} (k1 : 1 ≤ k) (k4 : k ≤ 4) : sg k ≠ [] := fun e => by
  have h := sg_len k4
  rw [e] at h
  simp at h
  omega
theorem longs {s q : Addr} {k : Nat} {x3 x4 : Option V} {p : Addr} {s0 : Nat} {a x t9 : Addr} {x10 x11 x12 x13 x14 : Option V} {H : Hp} {Q : VK} (hs : SrcAt H s) (k1 : 1 ≤ k) (k4 : k ≤ 4)
    (kQ : ∀ (b : Addr) (l1 l2 : List Nat) H', l1.length = 30 → l2.length = 300 → (∀ c ∈ l1, c ∈ sg k) → (∀ c ∈ l2, c ∈ sg k) → H' b = some (.lst [.str (S l1), .str (S l2)]) → SrcAt H' s → But s H H' → Q (.ref b) H') :
    tLc (iTup G.K (tTup (tCons (tC (.int 30)) (tCons (tC (.int 300)) tNil)))) (gName 15) tYes (tM1 (rJoin G.K) (tC (.str "")) (tLc (iRng1 (tCons (tVar 15) tNil)) (gName 16) tYes (tCall (sp__law_pick G) [] E0 (tCons (tVar 0) (tCons (tCB rListS (tCons (tSl rSlS (tC (.str "abcd")) tNoPart (tPart (tVar 2))) tNil)) tNil))) [16])) [15]
      (SG s q k x3 x4 p s0 a x t9 x10 x11 x12 x13 x14) H Q := by
  walk_at "u"
  refine ⟨by show 2 ≤ sizeLine; decide, fun u hu => ?_⟩
  refine ⟨u, rfl, ⟨_, SqT.of upd_same⟩, fun Dl hD => ?_⟩
  have us := hs.ne hu
  have s1 := hs.new (o := .tup [.int 30, .int 300]) hu
  have b1 : But s H (upd H u (.tup [.int 30, .int 300])) := (But.refl s H).new hu
  have hu1 : upd H u (.tup [.int 30, .int 300]) u = some (.tup [.int 30, .int 300]) := upd_same
  generalize upd H u (.tup [.int 30, .int 300]) = H1 at hD s1 b1 hu1
  have Ds := s1.ne hD
  refine lc_fixR (fixR_tup G.K u [.int 30, .int 300]) (fun i H' => ∃ ls : List (List Nat), ls.length = i ∧ (∀ j, j < i → (ls.getD j []).length = ([30, 300] : List Nat).getD j 0 ∧ ∀ c ∈ ls.getD j [], c ∈ sg k) ∧ H' Dl = some (.lst (ls.map fun l => .str (S l))) ∧ SrcAt H' s ∧ But s H1 H')
    (fun i H z => by obtain ⟨_, _, _, _, _, b⟩ := z; exact SqT.of (b _ _ hu1 us)) ⟨[], rfl, fun j hj => absurd hj (Nat.not_lt_zero j), upd_same, s1.new hD, (But.refl s H1).new hD⟩ (fun i Ha hi z => ⟨rfl, w_yes ?_⟩) (fun Ha z => ?_)
  · obtain ⟨ls, ll, hl, ex, sa, ba⟩ := z
    have hm : ∃ m : Nat, m ≤ 300 ∧ ([.int 30, .int 300] : List V).getD i .non = .int m ∧ ([30, 300] : List Nat).getD i 0 = m := by
      have hi : i < 2 := hi
      have : i = 0 ∨ i = 1 := by omega
      rcases this with rfl | rfl
      · exact ⟨30, by decide, rfl, rfl⟩
      · exact ⟨300, by decide, rfl, rfl⟩
    obtain ⟨m, hm, em, em2⟩ := hm
    rw [em]
    with_reducible refine w_m1 ?_
    walk_at "u"
    refine ⟨⟨_, rfl⟩, ?_⟩
    walk_at "u"
    refine ⟨_, rfl, by omega, by omega, fun D2 hD2 => ?_⟩
    have en : (m : Int).toNat = m := by omega
    rw [en]
    have D2s := sa.ne hD2
    refine lc_fix (fix_rng 0 m) (fun j H' => ∃ cs : List Nat, cs.length = j ∧ (∀ c ∈ cs, c ∈ sg k) ∧ H' D2 = some (.lst (cs.map fun c => .str (S [c]))) ∧ SrcAt H' s ∧ But s Ha H')
      ⟨[], rfl, (fun c hc => nomatch hc), upd_same, sa.new hD2, (But.refl s Ha).new hD2⟩ (fun j Hb hj zz => ⟨rfl, w_yes ?_⟩) (fun Hb zz => ?_)
    · obtain ⟨cs, cl, hc, e2, sb, bb⟩ := zz
      have hj : j < m := hj
      walk_at "u"
      refine w_slS (by decide +kernel) ?_
      rw [cut_sg]
      walk_at "u"
      refine ⟨_, rfl, line1000 (by rw [S_len, sg_len k4]; omega), fun l hl2 => ?_⟩
      rw [S_cps]
      walk_at "u"
      refine r_pick (G := G) (E := E0) (sb.new hl2) upd_same (sb.ne hl2) (by
        intro z
        exact sg_ne k1 k4 (List.map_eq_nil_iff.mp z)) (by rw [List.length_map, sg_len k4]; omega) fun v Hc hv sc bc => ?_
      obtain ⟨c, hcm, rfl⟩ := List.mem_map.mp hv
      have e3 := bc _ _ (up_new hl2 e2) D2s
      refine ⟨_, e3, by rw [List.length_map, cl, sizeLine_eq]; omega, cs ++ [c], by rw [List.length_append, cl]; rfl, fun d hd => ?_, by rw [upd_same, List.map_append]; rfl, sc.mut D2s, ((bb.new hl2).trans bc).mut hD2⟩
      rcases List.mem_append.mp hd with h | h
      · exact hc d h
      · have : d = c := by simpa using h
        exact this ▸ hcm
    · obtain ⟨cs, cl, hc, e2, sb, bb⟩ := zz
      refine ⟨"", D2, cs.map fun c => S [c], rfl, rfl, .inl (SqL.of (by rw [List.map_map]; exact e2)), ?_, ?_⟩
      · rw [sum_ones, List.length_map, cl, e_emp, S_len]
        show m + m * 0 ≤ _
        omega
      · rw [e_emp, join_S]
        refine ⟨_, bb _ _ ex Ds, by rw [List.length_map, ll, sizeLine_eq]; have hi : i < 2 := hi; omega, ls ++ [cs], by rw [List.length_append, ll]; rfl, fun j hj => ?_, by rw [upd_same, List.map_append]; rfl, sb.mut Ds, (ba.trans bb).mut hD⟩
        by_cases hlt : j < i
        · rw [app_left' (l := ls) (by omega)]
          exact hl j hlt
        · have e : j = i := by omega
          subst e
          rw [app_end' (l := ls) ll, em2]
          exact ⟨cl, hc⟩
  · obtain ⟨ls, ll, hl, ex, sa, ba⟩ := z
    match ls, ll with
    | [l1, l2], _ =>
      have h0 := hl 0 (by show 0 < 2; decide)
      have h1 := hl 1 (by show 1 < 2; decide)
      exact kQ Dl l1 l2 Ha h0.1 h1.1 h0.2 h1.2 ex sa (b1.trans ba)
theorem most_at {k : Nat} (k1 : 1 ≤ k) (k4 : k ≤ 4) : ∃ m : Nat, m ≤ 9 ∧ atI ([.int 0, .int 9, .int 5, .int 4, .int 3] : List V) ((k : Nat) : Int) = some (.int (m : Nat)) := by
  have : k = 1 ∨ k = 2 ∨ k = 3 ∨ k = 4 := by omega
  rcases this with rfl | rfl | rfl | rfl
  · exact ⟨9, by decide, rfl⟩
  · exact ⟨5, by decide, rfl⟩
  · exact ⟨4, by decide, rfl⟩
  · exact ⟨3, by decide, rfl⟩
/-- all words are asked, none is told otherwise -/
theorem words_loop {W : WX} {D : Ends} {s q : Addr} {k : Nat} {b3 y p : Addr} {s0 : Nat} {a x t9 : Addr} {x10 x11 x12 x13 x14 : Option V} {H : Hp} {R : List (List Nat)} {ms l1 l2 : List Nat} (th : ThingOk G H y R k s0 ms) (pl : PlanAt H q R s0 ms) (tf : TabF R k) (hs0 : s0 < R.length)
    (hb : H b3 = some (.lst [.str (S l1), .str (S l2)])) (h1 : OkW l1 k) (h2 : OkW l2 k) (kN : ∀ H' x13, Same H H' → D.nx (SG s q k (some (.ref b3)) (some (.ref y)) p s0 a x t9 x10 x11 x12 x13 x14) H') :
    tFor (iList G.K (tOp (rCatS G.K) (tCall (sp__law_all_words G) [] E0 (tCons (tVar 2) (tCons (tOp (rIxL G.K) (tLst (tCons (tC (.int 0)) (tCons (tC (.int 9)) (tCons (tC (.int 5)) (tCons (tC (.int 4)) (tCons (tC (.int 3)) tNil)))))) (tVar 2)) tNil))) (tVar 3))) (gName 13) (tIfS (tTest (tOp rNe (tCB (rRepr G.K) (tCons (tCallS (sp_accepts G) (WE W) (tCons (tVar 4) (tCons (tVar 13) tNil))) tNil)) (tCB (rRepr G.K) (tCons (tCall (sp__law_has G) [] E0 (tCons (tVar 1) (tCons (tVar 13) tNil))) tNil)))) (tRet (tC (.bl false))) tNext)
      D (SG s q k (some (.ref b3)) (some (.ref y)) p s0 a x t9 x10 x11 x12 x13 x14) H := by
  obtain ⟨_, _, k1, k4, _⟩ := id tf
  walk_at "u"
  refine ⟨by show 5 ≤ sizeLine; decide, fun o ho => ?_⟩
  obtain ⟨m, hm, em⟩ := most_at k1 k4
  walk_at "u"
  refine w_ixL (SqL.of upd_same) em ?_
  walk_at "u"
  refine ⟨rfl, k, m, rfl, k1, k4, hm, fun ws w Hw nw wa wl wn sw => ?_⟩
  walk_at "u"
  have sw' : Same H Hw := fun b o' e => sw b o' (up_new ho e)
  refine ⟨w, b3, _, _, rfl, rfl, SqL.of wa, SqL.of (sw' _ _ hb), by rw [List.length_map, sizeLine_eq]; show _ + 2 ≤ _; omega, fun z hz => ?_⟩
  have ec : (ws.map fun l => V.str (S l)) ++ [.str (S l1), .str (S l2)] = (ws ++ [l1, l2]).map fun l => V.str (S l) := by rw [List.map_append]; rfl
  rw [ec]
  have ok : ∀ l ∈ ws ++ [l1, l2], OkW l k := fun l hl => by
    rcases List.mem_append.mp hl with hl | hl
    · exact ⟨by have := (wl l hl).1; omega, (wl l hl).2⟩
    · rcases List.mem_cons.mp hl with rfl | hl
      · exact h1
      · have := List.mem_singleton.mp hl
        exact this ▸ h2
  generalize ws ++ [l1, l2] = wl2 at ok
  refine ⟨z, rfl, ⟨_, SqL.of upd_same⟩, ?_⟩
  have sz := same_new (o := .lst (wl2.map fun l => .str (S l))) sw' hz
  have ez : upd Hw z (.lst (wl2.map fun l => .str (S l))) z = some (.lst (wl2.map fun l => .str (S l))) := upd_same
  generalize upd Hw z (.lst (wl2.map fun l => .str (S l))) = Hz at sz ez
  refine for_fixR (fixR_list G.K z (wl2.map fun l => .str (S l))) (fun j σ H' => (∃ x13, σ = SG s q k (some (.ref b3)) (some (.ref y)) p s0 a x t9 x10 x11 x12 x13 x14) ∧ Same Hz H') (fun _ _ _ z => SqL.of (z.2 _ _ ez)) ⟨⟨_, rfl⟩, Same.refl Hz⟩ (fun j σ Ha hj z => ?_) (fun σ Ha z => ?_)
  · obtain ⟨⟨x13, rfl⟩, sa⟩ := z
    rw [List.length_map] at hj
    have ew : (wl2.map fun l => V.str (S l)).getD j .non = .str (S (wl2.getD j [])) := by
      rw [List.getD_eq_getElem?_getD, List.getElem?_map, List.getD_eq_getElem?_getD, List.getElem?_eq_getElem hj]
      rfl
    rw [ew]
    have hl := ok _ (show wl2.getD j [] ∈ wl2 by rw [List.getD_eq_getElem?_getD, List.getElem?_eq_getElem hj]; exact List.getElem_mem hj)
    generalize wl2.getD j [] = l at hl
    obtain ⟨R', s', out, tt, tf', hs', hrun⟩ := th.same (sz.trans sa)
    walk_at "u"
    refine ⟨rfl, y, _, R', s', k, out, rfl, tt, tf', hs', .inl ⟨l, rfl, hl, fun H2 s2 => ?_⟩⟩
    walk_at "u"
    refine ⟨_, _, rfl, .bl _, ?_⟩
    walk_at "u"
    have s3 := (sz.trans sa).trans s2
    refine ⟨rfl, q, R, s0, k, ms, l, rfl, pl.keep s3, tf, hs0, hl.2, ?_⟩
    walk_at "u"
    refine ⟨_, _, rfl, .bl _, ?_⟩
    rw [hrun l hl.2]
    walk_at "u"
    rw [decide_eq_true rfl]
    refine iteF ?_
    walk_at "u"
    exact ⟨⟨_, rfl⟩, sa.trans s2⟩
  · obtain ⟨⟨x13, rfl⟩, sa⟩ := z
    exact kN _ _ (sz.trans sa)
theorem abcde_at {k : Nat} (k4 : k ≤ 4) : atI ("abcde" : Str).cps.toList ((k : Nat) : Int) = some (97 + k) := by
  have : k = 0 ∨ k = 1 ∨ k = 2 ∨ k = 3 ∨ k = 4 := by omega
  rcases this with rfl | rfl | rfl | rfl | rfl <;> decide +kernel
theorem e_a : ("a" : Str) = S [97] := by decide +kernel
theorem odd_one {H : Hp} {l : List Nat} {k c : Nat} (k4 : k ≤ 4) (h1 : l.length ≤ 1000) (h2 : ∀ c ∈ l, c < 1000) (hc : c ∈ l) (h : c < 97 ∨ 97 + k ≤ c) : OddV G H (.str (S l)) k := odd_text h1 h2 (.inr ⟨c, hc, fun z => by
  have := sg_lt k4 z
  omega⟩)
theorem odd_lit {H : Hp} {x : Str} {l : List Nat} {k : Nat} (k4 : k ≤ 4) (e : x = S l) (h : (l.length ≤ 1000 ∧ ∀ c ∈ l, c < 1000) ∧ ∃ c ∈ l, c < 97 ∨ 101 ≤ c) : OddV G H (.str x) k := by
  obtain ⟨⟨h1, h2⟩, c, hc, h3⟩ := h
  rw [e]
  exact odd_one k4 h1 h2 hc (by omega)
/-- what is no word is refused -/
theorem odd_loop {D : Ends} {s q : Addr} {k : Nat} {b3 y p : Addr} {s0 : Nat} {a x t9 : Addr} {x10 x11 x12 x13 x14 : Option V} {H : Hp} {R : List (List Nat)} {ms l1 l2 : List Nat} (th : ThingOk G H y R k s0 ms) (k1 : 1 ≤ k) (k4 : k ≤ 4)
    (hb : H b3 = some (.lst [.str (S l1), .str (S l2)])) (h2 : ∀ c ∈ l2, c ∈ sg k) (h300 : l2.length = 300) (kN : ∀ H' x13 x14, Same H H' → D.nx (SG s q k (some (.ref b3)) (some (.ref y)) p s0 a x t9 x10 x11 x12 x13 x14) H') :
    tSeq (tAsg (tLst (tCons (tOp rIxS (tC (.str "abcde")) (tVar 2)) (tCons (tOp rAddS (tOp rAddS (tC (.str "a")) (tOp rIxS (tC (.str "abcde")) (tVar 2))) (tC (.str "a"))) (tCons (tC (.str "A")) (tCons (tC (.str " ")) (tCons (tC (.str "a ")) (tCons (tC .non) (tCons (tC (.int 5)) (tCons (tC (.bl true)) (tCons (tLst (tCons (tC (.str "a")) tNil)) (tCons (tTup (tCons (tC (.str "a")) (tCons (tC (.str "b")) tNil))) (tCons tDNewK tNil)))))))))))) (gName 14))
  (tFor (iList G.K (tOp (rCatS G.K) (tVar 14) (tLst (tCons (tOp rRepS (tC (.str "a")) (tC (.int 301))) (tCons (tOp rAddS (tOp (rIxL G.K) (tVar 3) (tC (.int 1))) (tC (.str "a"))) (tCons (tC (.str "e")) (tCons (tC (.str "a\n")) (tCons (tC (.str "0")) tNil)))))))) (gName 13) (tIfS (tNot (tB (tCall (sp__law_refused G) [] E0 (tCons (tVar 4) (tCons (tVar 13) tNil))))) (tRet (tC (.bl false))) tNext))
      D (SG s q k (some (.ref b3)) (some (.ref y)) p s0 a x t9 x10 x11 x12 x13 x14) H := by
  walk_at "u"
  refine ⟨_, _, _, rfl, rfl, line1000 (by decide +kernel), abcde_at k4, ?_⟩
  walk_at "u"
  refine ⟨_, _, _, rfl, rfl, line1000 (by decide +kernel), abcde_at k4, ?_⟩
  rw [e_a]
  refine w_addS (line1000 (by rw [S_len]; show 1 + 1 ≤ _; decide)) ?_
  have ea : S [97] ++ (⟨#[97 + k]⟩ : Str) = S [97, 97 + k] := S_app [97] [97 + k]
  rw [ea]
  walk_at "u"
  refine w_addS (line1000 (by rw [S_len, S_len]; show 2 + 1 ≤ _; decide)) ?_
  rw [S_app]
  walk_at "u"
  refine ⟨by show 1 ≤ sizeLine; decide, fun o1 h1 => ?_⟩
  walk_at "u"
  refine ⟨by show 2 ≤ sizeLine; decide, fun o2 ho2 => ?_⟩
  walk_at "u"
  refine fun o3 h3 => ?_
  walk_at "u"
  refine ⟨by show 11 ≤ sizeLine; decide, fun od hod => ?_⟩
  have g1 : Same H (upd H o1 (.lst [.str (S [97])])) := same_new (Same.refl H) h1
  have f1 : upd H o1 (.lst [.str (S [97])]) o1 = some (.lst [.str (S [97])]) := upd_same
  generalize upd H o1 (.lst [.str (S [97])]) = H1 at g1 f1 ho2 h3 hod
  have g2 : Same H (upd H1 o2 (.tup [.str (S [97]), .str "b"])) := same_new g1 ho2
  have f2 : upd H1 o2 (.tup [.str (S [97]), .str "b"]) o2 = some (.tup [.str (S [97]), .str "b"]) := upd_same
  have f12 : upd H1 o2 (.tup [.str (S [97]), .str "b"]) o1 = some (.lst [.str (S [97])]) := up_new ho2 f1
  generalize upd H1 o2 (.tup [.str (S [97]), .str "b"]) = H2 at g2 f2 f12 h3 hod
  have g3 : Same H (upd H2 o3 (.dK [])) := same_new g2 h3
  have f3 : upd H2 o3 (.dK []) o3 = some (.dK []) := upd_same
  have f23 : upd H2 o3 (.dK []) o2 = some (.tup [.str (S [97]), .str "b"]) := up_new h3 f2
  have f13 : upd H2 o3 (.dK []) o1 = some (.lst [.str (S [97])]) := up_new h3 f12
  generalize upd H2 o3 (.dK []) = H3 at g3 f3 f23 f13 hod
  obtain ⟨LA, hLA⟩ : ∃ L : List V, L = [.str ⟨#[97 + k]⟩, .str (S ([97, 97 + k] ++ [97])), .str "A", .str " ", .str "a ", .non, .int 5, .bl true, .ref o1, .ref o2, .ref o3] := ⟨_, rfl⟩
  have lenA : LA.length = 11 := by rw [hLA]; rfl
  rw [← hLA]
  walk_at "u"
  refine ⟨_, _, rfl, rfl, by decide, by decide, by rw [S_len, sizeLine_eq]; show 1 * 301 ≤ _; decide, ?_⟩
  rw [S_cps, flat_rep]
  walk_at "u"
  refine w_ixL (SqL.of (up_new hod (g3 _ _ hb))) (by exact rfl) ?_
  walk_at "u"
  refine w_addS (line1000 (by rw [S_len, S_len, h300]; show 300 + 1 ≤ _; decide)) ?_
  rw [S_app]
  walk_at "u"
  refine ⟨by show 5 ≤ sizeLine; decide, fun o5 ho5 => ?_⟩
  obtain ⟨LB, hLB⟩ : ∃ L : List V, L = [.str (S (List.replicate (Int.toNat 301) 97)), .str (S (l2 ++ [97])), .str "e", .str "a\n", .str "0"] := ⟨_, rfl⟩
  have lenB : LB.length = 5 := by rw [hLB]; rfl
  rw [← hLB]
  walk_at "u"
  refine ⟨od, o5, LA, LB, rfl, rfl, SqL.of (up_new ho5 upd_same), SqL.of upd_same, by rw [lenA, lenB]; decide, fun z hz => ?_⟩
  refine ⟨z, rfl, ⟨_, SqL.of upd_same⟩, ?_⟩
  generalize hI : LA ++ LB = items
  have sz : Same H3 (upd (upd (upd H3 od (.lst LA)) o5 (.lst LB)) z (.lst items)) := same_new (same_new (same_new (Same.refl H3) hod) ho5) hz
  have ez : upd (upd (upd H3 od (.lst LA)) o5 (.lst LB)) z (.lst items) z = some (.lst items) := upd_same
  generalize upd (upd (upd H3 od (.lst LA)) o5 (.lst LB)) z (.lst items) = Hz at sz ez
  have hodd : ∀ v ∈ items, OddV G Hz v k := by
    rw [← hI, hLA, hLB]
    intro v hv
    rcases List.mem_cons.mp hv with rfl | hv
    · refine odd_one (c := 97 + k) (l := [97 + k]) k4 (by show 1 ≤ 1000; decide) (fun c hc => ?_) List.mem_cons_self (.inr (Nat.le_refl _))
      have : c = 97 + k := by simpa using hc
      omega
    rcases List.mem_cons.mp hv with rfl | hv
    · refine odd_one (c := 97 + k) k4 (by show 3 ≤ 1000; decide) (fun c hc => ?_) (by simp) (.inr (Nat.le_refl _))
      have : c = 97 ∨ c = 97 + k ∨ c = 97 := by simpa using hc
      omega
    rcases List.mem_cons.mp hv with rfl | hv
    · exact odd_lit (l := [65]) k4 (by decide +kernel) (by decide)
    rcases List.mem_cons.mp hv with rfl | hv
    · exact odd_lit (l := [32]) k4 (by decide +kernel) (by decide)
    rcases List.mem_cons.mp hv with rfl | hv
    · exact odd_lit (l := [97, 32]) k4 (by decide +kernel) (by decide)
    rcases List.mem_cons.mp hv with rfl | hv
    · exact odd_none
    rcases List.mem_cons.mp hv with rfl | hv
    · exact odd_int 5 (by decide +kernel)
    rcases List.mem_cons.mp hv with rfl | hv
    · exact odd_bool true
    rcases List.mem_cons.mp hv with rfl | hv
    · exact odd_list (by rw [e_a]; exact sz _ _ f13)
    rcases List.mem_cons.mp hv with rfl | hv
    · exact odd_tup (by rw [e_a]; exact sz _ _ f23)
    rcases List.mem_cons.mp hv with rfl | hv
    · exact odd_dict (sz _ _ f3)
    rcases List.mem_cons.mp hv with rfl | hv
    · exact odd_text (by rw [List.length_replicate]; decide) (fun c hc => by rw [(List.mem_replicate.mp hc).2]; decide) (.inl (by rw [List.length_replicate]; decide))
    rcases List.mem_cons.mp hv with rfl | hv
    · refine odd_text (by rw [List.length_append, h300]; decide) (fun c hc => ?_) (.inl (by rw [List.length_append, h300]; decide))
      rcases List.mem_append.mp hc with hc | hc
      · have := sg_lt k4 (h2 c hc)
        omega
      · have : c = 97 := by simpa using hc
        omega
    rcases List.mem_cons.mp hv with rfl | hv
    · exact odd_lit (l := [101]) k4 (by decide +kernel) (by decide)
    rcases List.mem_cons.mp hv with rfl | hv
    · exact odd_lit (l := [97, 10]) k4 (by decide +kernel) (by decide)
    rcases List.mem_cons.mp hv with rfl | hv
    · exact odd_lit (l := [48]) k4 (by decide +kernel) (by decide)
    · exact nomatch hv
  have gz := g3.trans sz
  refine for_fixR (fixR_list G.K z items) (fun j σ H' => (∃ x13, σ = SG s q k (some (.ref b3)) (some (.ref y)) p s0 a x t9 x10 x11 x12 x13 (some (.ref od))) ∧ Same Hz H') (fun _ _ _ z => SqL.of (z.2 _ _ ez)) ⟨⟨_, rfl⟩, Same.refl Hz⟩ (fun j σ Ha hj z => ?_) (fun σ Ha z => ?_)
  · obtain ⟨⟨x13, rfl⟩, sa⟩ := z
    have hv := hodd (items.getD j .non) (by rw [List.getD_eq_getElem?_getD, List.getElem?_eq_getElem hj]; exact List.getElem_mem hj)
    generalize items.getD j .non = v at hv
    obtain ⟨R', s', out, tt, tf', hs', hrun⟩ := th.same (gz.trans sa)
    walk_at "u"
    refine ⟨rfl, y, v, R', s', k, out, rfl, tt, tf', hs', hv.same sa, fun H4 s4 => ?_⟩
    walk_at "u"
    exact ⟨⟨_, rfl⟩, sa.trans s4⟩
  · obtain ⟨⟨x13, rfl⟩, sa⟩ := z
    exact kN _ _ _ (gz.trans sa)

end
end K67

set_option Elab.async false
set_option linter.all false
set_option maxRecDepth 100000
set_option maxHeartbeats 4000000
namespace K67
open PySem PySem.Spec PyProof.Rows L2 LX M67
local macro_rules | `(tactic| walk_at "hp") => `(tactic| first | assumption | exact upd_same | (refine up_new (by assumption) ?_; walk_at "hp") | (refine up_ne (by first | assumption | (exact Ne.symm (by assumption))) ?_; walk_at "hp") | (refine up_mut (by assumption) (by intro z; cases z) ?_; walk_at "hp"))
local macro_rules | `(tactic| walk_at "w1") => `(tactic| first
  | (with_reducible refine w_seq ?_) | (with_reducible refine w_asg ?_) | (with_reducible refine w_name ?_) | (with_reducible refine w_ret ?_) | (with_reducible refine w_drop ?_) | (with_reducible refine w_ifS ?_)
  | (with_reducible refine w_var (by with_unfolding_all exact rfl) ?_) | (with_reducible refine w_c ?_) | (with_reducible refine w_op ?_) | (with_reducible refine w_test ?_) | (with_reducible refine w_B ?_)
  | (with_reducible refine w_bl ?_) | (with_reducible refine w_cons ?_) | (with_reducible refine w_nil ?_) | (with_reducible refine w_cb ?_) | (with_reducible refine w_call ?_) | (with_reducible refine w_callS ?_)
  | (with_reducible refine w_addI ?_) | (with_reducible refine w_subI ?_) | (with_reducible refine w_ltI ?_) | (with_reducible refine w_leI ?_) | (with_reducible refine w_gtI ?_) | (with_reducible refine w_geI ?_)
  | (with_reducible refine w_tAnd ?_) | (with_reducible refine w_tOr ?_) | (with_reducible refine w_tNot ?_) | (with_reducible refine w_andV ?_) | (with_reducible refine w_orV ?_) | (with_reducible refine w_notV ?_) | (with_reducible refine w_if ?_)
  | (with_reducible refine w_un ?_) | (with_reducible refine w_neg ?_) | (with_reducible refine w_intI ?_) | (with_reducible refine w_intB ?_) | (with_reducible refine w_abs ?_)
  | (with_reducible refine w_eq (by with_unfolding_all exact rfl) ?_) | (with_reducible refine w_ne (by with_unfolding_all exact rfl) ?_) | (with_reducible refine w_isNone ?_) | (with_reducible refine w_notNone ?_)
  | (with_reducible refine w_tup ?_) | (with_reducible refine w_lst ?_) | (with_reducible refine w_sl ?_) | (with_reducible refine w_noPart ?_) | (with_reducible refine w_part ?_) | (with_reducible refine w_partI ?_)
  | (with_reducible refine w_fld0 ?_) | (with_reducible refine w_rz ?_)
  | (with_reducible refine w_next ?_) | (with_reducible refine w_brk ?_) | (with_reducible refine w_cont ?_) | (with_reducible refine w_retN ?_))
local macro_rules | `(tactic| walk_at "w") => `(tactic| repeat walk_at "w1")
local macro_rules | `(tactic| walk_at "u1") => `(tactic| first | walk_at "w1" | (with_reducible refine w_gsub ?_) | (with_reducible refine w_par ?_) | (with_reducible refine w_par3 ?_) | (with_reducible refine w_pr2 ?_) | (with_reducible refine w_pr3 ?_) | (with_reducible refine w_then ?_) | (with_reducible refine w_for ?_) | (with_reducible refine w_rng1 ?_) | (with_reducible refine w_enumS ?_) | (with_reducible refine w_iList ?_) | (with_reducible refine w_iTup ?_) | (with_reducible refine w_iStr ?_) | (with_reducible refine w_make ?_) | (with_reducible refine w_lc ?_) | (with_reducible refine w_iEnum ?_) | (with_reducible refine w_iEnumT ?_) | (with_reducible refine w_chain ?_) | (with_reducible refine w_bm ?_))
local macro_rules | `(tactic| walk_at "u") => `(tactic| repeat walk_at "u1")
section
variable {P : Program} {w : World} {base : Heap} {G : Gx}
/-! _law_right, law -/
theorem rq_Automaton (T : Txt G) {N : List Str} {qual : Str} {scope : Scope} {f : Addr} {cd : Value} {A : Around} {outer : List Env} {s : Shared} {H : Hp} {E : XK} : RcG (cxOf (L2.CX P w) P w G.K G.mg base N qual scope f cd A outer s H E) 2 (DIns G.c_Automaton (EqAut G)) :=
  rcG_ins (E := E0) (ok_Fact_eq T) T.eq_Automaton.1 T.eq_Automaton.2 T.b_Fact_eq passL
def sp__law_right (G : Gx) : Sp := fun vs H Q _ => vs.length = 1 ∧ ∃ s : Addr, vs = [.ref s] ∧ SrcAt H s ∧ ∀ H', But s H H' → Q (.bl true) H'
def t__law_right (G : Gx) (W : WX) : TS :=
  tSeq (tAsg (tCall (sp__law_plan G) [] E0 (tCons (tVar 0) (tCons (tC (.int 9)) tNil))) (gName 1))
  (tSeq (tAsg (tVar 1) (gTup G.K 3 (gCons (gName 5) (gCons (gName 6) (gCons (gName 7) gNil)))))
  (tSeq (tAsg (tCB (LX.rLen G.K) (tCons (tOp (rIxL G.K) (tVar 5) (tC (.int 0))) tNil)) (gName 2))
  (tSeq (tPar 8 9 (tCons (tMake G.c_Automaton (sp_Automaton_init G) [] E0 (tCons (tVar 5) (tCons (tVar 6) (tCons (tVar 7) tNil)))) (tCons (tLst tNil) tNil)))
  (tSeq (tAsg (tIf (tTest (tOp rLtI (tCB (LX.rLen G.K) (tCons (tVar 5) tNil)) (tC (.int 5)))) (tCall (sp__law_acts G) [] E0 (tCons (tSl (rSlL G.K) (tVar 5) tNoPart (tPart (tC (.int 4)))) tNil)) (tTup (tCons (tLst tNil) (tCons (tLst tNil) (tCons (tLst tNil) tNil))))) (gTup G.K 3 (gCons (gName 10) (gCons (gName 11) (gCons (gName 12) gNil)))))
  (tSeq (tDrop (tBM G.K "list" rAppend (tVar 9) (tCons (tVar 8) tNil)))
  (tSeq (tIfS (tAnd (tTest (tOp (rNeD G.K) (tVar 10) (tLst tNil))) (tTest (tOp rLeI (tCB (LX.rLen G.K) (tCons (tVar 10) tNil)) (tC (.int 500))))) (tDrop (tBM G.K "list" rAppend (tVar 9) (tCons (tMake G.c_Language (sp_Language_init G) [] E0 (tCons (tMake G.c_Monoid (sp_Monoid_init G) [] E0 (tCons (tVar 12) tNil)) (tCons (tLc (iEnum G.K (tCons (tVar 10) tNil)) (gTup G.K 2 (gCons (gName 17) (gCons (gName 18) gNil))) (tTest (tOp (rIn G.K false) (tOp (rIxT G.K) (tVar 18) (tVar 6)) (tVar 7))) (tVar 17) [17, 18]) tNil))) tNil))) tNext)
  (tSeq (tAsg (tLc (iTup G.K (tTup (tCons (tC (.int 30)) (tCons (tC (.int 300)) tNil)))) (gName 15) tYes (tM1 (rJoin G.K) (tC (.str "")) (tLc (iRng1 (tCons (tVar 15) tNil)) (gName 16) tYes (tCall (sp__law_pick G) [] E0 (tCons (tVar 0) (tCons (tCB rListS (tCons (tSl rSlS (tC (.str "abcd")) tNoPart (tPart (tVar 2))) tNil)) tNil))) [16])) [15]) (gName 3))
  (tSeq (tFor (iList G.K (tVar 9)) (gName 4) (tSeq (tFor (iList G.K (tOp (rCatS G.K) (tCall (sp__law_all_words G) [] E0 (tCons (tVar 2) (tCons (tOp (rIxL G.K) (tLst (tCons (tC (.int 0)) (tCons (tC (.int 9)) (tCons (tC (.int 5)) (tCons (tC (.int 4)) (tCons (tC (.int 3)) tNil)))))) (tVar 2)) tNil))) (tVar 3))) (gName 13) (tIfS (tTest (tOp rNe (tCB (rRepr G.K) (tCons (tCallS (sp_accepts G) (WE W) (tCons (tVar 4) (tCons (tVar 13) tNil))) tNil)) (tCB (rRepr G.K) (tCons (tCall (sp__law_has G) [] E0 (tCons (tVar 1) (tCons (tVar 13) tNil))) tNil)))) (tRet (tC (.bl false))) tNext))
  (tSeq (tAsg (tLst (tCons (tOp rIxS (tC (.str "abcde")) (tVar 2)) (tCons (tOp rAddS (tOp rAddS (tC (.str "a")) (tOp rIxS (tC (.str "abcde")) (tVar 2))) (tC (.str "a"))) (tCons (tC (.str "A")) (tCons (tC (.str " ")) (tCons (tC (.str "a ")) (tCons (tC .non) (tCons (tC (.int 5)) (tCons (tC (.bl true)) (tCons (tLst (tCons (tC (.str "a")) tNil)) (tCons (tTup (tCons (tC (.str "a")) (tCons (tC (.str "b")) tNil))) (tCons tDNewK tNil)))))))))))) (gName 14))
  (tFor (iList G.K (tOp (rCatS G.K) (tVar 14) (tLst (tCons (tOp rRepS (tC (.str "a")) (tC (.int 301))) (tCons (tOp rAddS (tOp (rIxL G.K) (tVar 3) (tC (.int 1))) (tC (.str "a"))) (tCons (tC (.str "e")) (tCons (tC (.str "a\n")) (tCons (tC (.str "0")) tNil)))))))) (gName 13) (tIfS (tNot (tB (tCall (sp__law_refused G) [] E0 (tCons (tVar 4) (tCons (tVar 13) tNil))))) (tRet (tC (.bl false))) tNext)))))
  (tRet (tOp (rEqG (DIns G.c_Automaton (EqAut G))) (tVar 8) (tMake G.c_Automaton (sp_Automaton_init G) [] E0 (tCons (tVar 5) (tCons (tVar 6) (tCons (tVar 7) tNil))))))))))))))
theorem sMat {p : Addr} {H H' : Hp} {R : List (List Nat)} (m : Mat .lst .tup H p R) (b : Same H H') : Mat .lst .tup H' p R := m.same b
theorem acts_dp {K : PySem.W.Frag} {H : Hp} {p : Addr} {R : List (List Nat)} (m : Mat .lst .tup H p R) : Dp K H (.ref p) (.list (RD R)) := by
  obtain ⟨ps, h1, h2, h3⟩ := m
  refine .lst (SqL.of h1) (dpAll_of (by simp [RD, h2]) fun i hi => ?_)
  rw [refs_len] at hi
  rw [refs_getD hi]
  have e : (RD R).getD i .none = .tuple (ID (R.getD i [])) := by
    unfold RD
    rw [List.getD_eq_getElem?_getD, List.getElem?_map, List.getElem?_eq_getElem (by omega : i < R.length), List.getD_eq_getElem?_getD, List.getElem?_eq_getElem (by omega : i < R.length)]
    rfl
  rw [e]
  exact dp_tupI (h3 i (by omega))
theorem acts_shaped (R : List (List Nat)) : SeqAt.shaped (.list (RD R)) = true := shaped_of (RD_lay R) (by
  have := RD_depth R
  show PyData.depthAll (RD R) + 1 ≤ 64
  omega)
theorem pure__law_right (T : Txt G) (vs : List V) (H : Hp) (Q : VK) (E : XK) (h : sp__law_right G vs H Q E) : t__law_right G (fun cls d _ H => E cls d H) { nx := fun _ H' => Q .non H', rt := Q } (start ["_law_source_here", "_law_plan_here", "_law_letters", "_law_long_ones", "_law_thing", "_law_moves_here", "_law_first", "_law_marked", "_law_one", "_law_things", "_law_acts_here", "_law_words_so", "_law_table", "_law_word", "_law_odd", "_law_many", "_law_turn", "_law_k", "_law_act"] vs) H := by
  obtain ⟨_, s, rfl, hs, kQ⟩ := h
  unfold t__law_right
  walk_at "u"
  refine ⟨rfl, s, 9, rfl, hs, by decide, by decide, fun q R s0 k ms H1 pl tf hR hs0 hms hm s1 b1 => ?_⟩
  obtain ⟨qs, p, a, hq, mp, ha, as⟩ := id pl
  obtain ⟨pls, ps, hp, pl2, hrow⟩ := id mp
  obtain ⟨r1, r2, k1, k4, hr⟩ := id tf
  walk_at "u"
  refine w_gT3 hq ?_
  walk_at "u"
  refine w_ixL (SqL.of hp) (by exact refs_at (i := 0) (by omega)) ?_
  walk_at "u"
  refine w_lenL (SqL.of (hrow 0 (by omega)).1) ?_
  rw [IL_len, (hr 0 (by omega)).1]
  walk_at "u"
  refine fun x dx hx hdx ne => ?_
  have hx2 : upd H1 dx (.own x) x = none := by rw [upd_ne ne.symm]; exact hx
  have sm : Same H1 (upd (upd H1 dx (.own x)) x (.ins G.c_Automaton dx [])) := same_new (same_new (Same.refl H1) hdx) hx2
  refine ⟨rfl, x, dx, p, a, R, k, s0, ms, rfl, upd_same, mp.mat.same sm, ⟨r1, by omega, k1, k4, hr⟩, hs0, sm _ _ ha, by omega, hm, fun out H2 aut so bx => ⟨rfl, ?_⟩⟩
  have s12 := bx.same sm hx
  walk_at "u"
  refine ⟨by show 0 ≤ sizeLine; decide, fun t9 ht9 => ?_⟩
  with_reducible refine w_nil ?_
  with_reducible refine w_pr2 ?_
  have s13 := same_new (o := .lst []) s12 ht9
  have n9 := none_old s12 ht9
  have aut3 := aut.keep (same_new (o := .lst []) (Same.refl H2) ht9)
  have e9 : upd H2 t9 (.lst []) t9 = some (.lst []) := upd_same
  generalize upd H2 t9 (.lst []) = H3 at s13 aut3 e9
  with_reducible refine w_cutN fun N1 hN1 => ?_
  have rest1 : ∀ (A U : List (List Nat)) (a10 a11 a12 : Addr) (H4 : Hp), a10 ≠ t9 → Mat .lst .tup H4 a10 A → (A = [] ∨ (a12 ≠ t9 ∧ Mat .lst .lst H4 a12 U ∧ ActsOk R k A U)) → Same H3 H4 → N1 (SG s q k none none p s0 a x t9 (some (.ref a10)) (some (.ref a11)) (some (.ref a12)) none none) H4 := by
    intro A U a10 a11 a12 H4 n10 m10 hA s34
    rw [hN1]
    have s14 := s13.trans s34
    have e94 := s34 _ _ e9
    have aut4 := aut3.keep s34
    walk_at "u"
    refine ⟨ty_list (SqL.of e94), ?_⟩
    walk_at "u"
    refine w_appL e94 (by show 0 < sizeLine; decide) ?_
    with_reducible refine w_cutN fun N2 hN2 => ?_
    have rest2 : ∀ (xs : List Addr) (H6 : Hp), H6 t9 = some (.lst (xs.map V.ref)) → (∀ y ∈ xs, ThingOk G H6 y R k s0 ms) → xs.length ≤ 2 → Same H1 H6 → AutAt G H6 x R s0 out → N2 (SG s q k none none p s0 a x t9 (some (.ref a10)) (some (.ref a11)) (some (.ref a12)) none none) H6 := by
      intro xs H6 e96 hth _ s16 aut6
      rw [hN2]
      have hs6 := s1.same s16
      have t9s := s1.ne n9
      with_reducible refine w_seq ?_
      with_reducible refine w_asg ?_
      refine longs hs6 k1 k4 fun b3 l1 l2 H7 n1 n2 c1 c2 eb s7 b67 => ?_
      with_reducible refine w_name ?_
      have b17 : But s H1 H7 := (But.of s16).trans b67
      have b07 : But s H H7 := b1.trans b17
      have pl7 := (pl.but b17).plan
      have mp7 := (mp.but b17).mat
      have ha7 := b17 _ _ ha as
      have hth7 : ∀ y ∈ xs, ThingOk G H7 y R k s0 ms := fun y hy => (hth y hy).but (SrcAt.noTree hs6) b67
      have aut7 := aut6.but (SrcAt.noTree hs6) b67
      have e97 := b67 _ _ e96 t9s
      walk_at "u"
      refine ⟨t9, rfl, ⟨_, SqL.of e97⟩, ?_⟩
      refine for_fixR (fixR_list G.K t9 (xs.map V.ref)) (fun i σ H' => (∃ x4 x13 x14 : Option V, σ = SG s q k (some (.ref b3)) x4 p s0 a x t9 (some (.ref a10)) (some (.ref a11)) (some (.ref a12)) x13 x14) ∧ Same H7 H') (fun _ _ _ z => SqL.of (z.2 _ _ e97)) ⟨⟨_, _, _, rfl⟩, Same.refl H7⟩ (fun i σ Ha hi z => ?_) (fun σ Ha z => ?_)
      · obtain ⟨⟨x4, x13, x14, rfl⟩, sa⟩ := z
        rw [refs_len] at hi
        rw [refs_getD hi]
        have hy := hth7 (xs.getD i 0) (by rw [List.getD_eq_getElem?_getD, List.getElem?_eq_getElem hi]; exact List.getElem_mem hi)
        generalize xs.getD i 0 = y at hy
        with_reducible refine w_name ?_
        with_reducible refine w_seq ?_
        refine words_loop (hy.same sa) (pl7.keep sa) tf hs0 (sa _ _ eb) ⟨by omega, c1⟩ ⟨by omega, c2⟩ fun Hb x13 sb => ?_
        refine odd_loop (hy.same (sa.trans sb)) k1 k4 (sb _ _ (sa _ _ eb)) c2 n2 fun Hc x13 x14 sc => ?_
        exact ⟨⟨_, _, _, rfl⟩, (sa.trans sb).trans sc⟩
      · obtain ⟨⟨x4, x13, x14, rfl⟩, sa⟩ := z
        walk_at "u"
        refine fun x2 dx2 hx2 hdx2 ne2 => ?_
        have hx22 : upd Ha dx2 (.own x2) x2 = none := by rw [upd_ne ne2.symm]; exact hx2
        have sm2 : Same Ha (upd (upd Ha dx2 (.own x2)) x2 (.ins G.c_Automaton dx2 [])) := same_new (same_new (Same.refl Ha) hdx2) hx22
        have s7m := sa.trans sm2
        refine ⟨rfl, x2, dx2, p, a, R, k, s0, ms, rfl, upd_same, mp7.same s7m, ⟨r1, by omega, k1, k4, hr⟩, hs0, s7m _ _ ha7, by omega, hm, fun out2 Hb aut2 so2 bx2 => ⟨rfl, ?_⟩⟩
        have sab := bx2.same sm2 hx2
        have autb := aut7.keep (sa.trans sab)
        rw [← sorted_eq so so2] at aut2
        obtain ⟨d1, p1, q1, r1', i1, _⟩ := id autb
        obtain ⟨d2, p2, q2, r2', i2, _⟩ := id aut2
        refine ⟨⟨x, x2, _, _, _, _, rfl, rfl, i1, i2, R, s0, out, autb, aut2⟩, fun Hc ec => kQ Hc ?_⟩
        exact (b07.thenSame (sa.trans sab)).thenSame ec
    have b45 : But t9 H4 (upd H4 t9 (.lst ([] ++ [.ref x]))) := But.at_
    have s15 : Same H1 (upd H4 t9 (.lst ([] ++ [.ref x]))) := same_mut s14 n9
    have e95 : upd H4 t9 (.lst ([] ++ [.ref x])) t9 = some (.lst (([x] : List Addr).map V.ref)) := upd_same
    have aut5 := aut4.but (refs_noTree (xs := []) e94) b45
    have m105 : Mat .lst .tup (upd H4 t9 (.lst ([] ++ [.ref x]))) a10 A := m10.but b45 n10 fun i hi e => by
      rw [e94] at e
      cases e
    have m125 : A = [] ∨ (Mat .lst .lst (upd H4 t9 (.lst ([] ++ [.ref x]))) a12 U ∧ ActsOk R k A U) := hA.imp id fun z => by
      obtain ⟨n12, m12, ao⟩ := z
      refine ⟨m12.but b45 n12 fun i hi e => ?_, ao⟩
      rw [e94] at e
      have h5 := (ao.1.2.2.2.2 i hi).1
      have h3 := ao.1.2.2.1
      have e2 := congrArg List.length (HO.lst.inj (Option.some.inj e))
      rw [IL_len, h5] at e2
      have e3 : 0 = k := e2
      omega
    clear hA m10
    generalize upd H4 t9 (.lst ([] ++ [.ref x])) = H5 at s15 e95 aut5 m105 m125
    walk_at "u"
    refine ⟨by show 0 ≤ sizeLine; decide, fun e he => ?_⟩
    have s56 := same_new (o := .lst []) (Same.refl H5) he
    refine ⟨_, _, acts_dp (m105.same s56), .lst (SqL.of upd_same) .nil, acts_shaped A, by decide +kernel, ?_⟩
    generalize upd H5 e (.lst []) = H6 at s56
    have s16 := s15.trans s56
    have e96 := s56 _ _ e95
    have aut6 := aut5.keep s56
    rcases m125 with rfl | ⟨m12, ao⟩
    · rw [show PyData.eqv (.list (RD [])) (.list []) = true from rfl]
      refine ⟨_, rfl, ?_⟩
      refine iteF ?_
      refine iteF ?_
      with_reducible refine w_next ?_
      exact rest2 [x] H6 e96 (fun y hy => by rw [List.mem_singleton.mp hy]; exact thing_aut aut6 tf hs0 so) (by show 1 ≤ 2; decide) s16 aut6
    · obtain ⟨⟨f1, f2, f3, f4, f5⟩, il, len, a256, al, hrun⟩ := id ao
      have hne : PyData.eqv (.list (RD A)) (.list []) = false := by
        cases A with
        | nil => exact absurd (len ▸ f1 : 1 ≤ ([] : List (List Nat)).length) (by decide)
        | cons y A => rfl
      rw [hne]
      refine ⟨_, rfl, ?_⟩
      refine iteT ?_
      have m106 := m105.same s56
      obtain ⟨as10, h10, l10, r10⟩ := id m106
      walk_at "u"
      refine w_lenL (SqL.of h10) ?_
      rw [refs_len, l10]
      walk_at "u"
      rw [decide_eq_true (by omega : (A.length : Int) ≤ 500)]
      refine iteT ?_
      walk_at "u"
      refine ⟨ty_list (SqL.of e96), ?_⟩
      walk_at "u"
      refine fun xm dxm hxm hdxm nem => ?_
      have hxm2 : upd H6 dxm (.own xm) xm = none := by rw [upd_ne nem.symm]; exact hxm
      have sm6 : Same H6 (upd (upd H6 dxm (.own xm)) xm (.ins G.c_Monoid dxm [])) := same_new (same_new (Same.refl H6) hdxm) hxm2
      refine ⟨rfl, xm, dxm, a12, U, k, rfl, upd_same, (m12.same s56).same sm6, ⟨f1, f2, f3, f4, f5⟩, il, fun H7 mon bm => ⟨rfl, ?_⟩⟩
      have s67 := bm.same sm6 hxm
      walk_at "u"
      refine ⟨a10, _, rfl, SqL.of (s67 _ _ h10), fun Dl hD => ?_⟩
      refine lc_marks (s67 _ _ h10) l10 (fun i hi => s67 _ _ (r10 i hi)) al hs0 a256 (s67 _ _ (s16 _ _ ha)) (fun _ _ => rfl) (fun _ _ => rfl) (fun _ _ => rfl) (fun _ _ => rfl) (fun _ _ => rfl) hD fun H8 s78 eD => ?_
      walk_at "u"
      refine fun xl dxl hxl hdxl nel => ?_
      have hxl2 : upd H8 dxl (.own xl) xl = none := by rw [upd_ne nel.symm]; exact hxl
      have sl8 : Same H8 (upd (upd H8 dxl (.own xl)) xl (.ins G.c_Language dxl [])) := same_new (same_new (Same.refl H8) hdxl) hxl2
      have mlen : (marksOf A s0 ms A.length).length ≤ A.length := Nat.le_trans (List.length_filter_le _ _) (by simp)
      refine ⟨rfl, xl, dxl, xm, Dl, U, k, marksOf A s0 ms A.length, rfl, upd_same, (mon.keep s78).keep sl8, ⟨f1, f2, f3, f4, f5⟩, k4, by omega, sl8 _ _ eD, by omega, fun m hm => ?_, fun out2 H9 lang so2 bl => ⟨rfl, ?_⟩⟩
      · have := List.mem_range.mp (List.mem_filter.mp hm).1
        omega
      have s89 := bl.same sl8 hxl
      have s69 := (s67.trans s78).trans s89
      have e99 := s69 _ _ e96
      walk_at "u"
      refine w_appL e99 (by show 1 < sizeLine; decide) ?_
      walk_at "u"
      have b9 : But t9 H9 (upd H9 t9 (.lst ((([x] : List Addr).map V.ref) ++ [.ref xl]))) := But.at_
      have nt := refs_noTree (xs := [x]) e99
      have aut9 := (aut6.keep s69).but nt b9
      refine rest2 [x, xl] _ upd_same (fun y hy => ?_) (by show 2 ≤ 2; decide) (same_mut (s16.trans s69) n9) aut9
      rcases List.mem_cons.mp hy with rfl | hy
      · exact thing_aut aut9 tf hs0 so
      · rw [List.mem_singleton.mp hy]
        exact thing_lang ao k4 (lang.but nt b9) hs0 so2
  have lp : Mat .lst .lst H3 p R := mp.mat.same s13
  obtain ⟨ps3, hp3, pl3, hrow3⟩ := id lp
  walk_at "u"
  refine w_lenL (SqL.of hp3) ?_
  rw [refs_len, pl3]
  walk_at "u"
  refine w_ite (fun hlt => ?_) fun hge => ?_
  · have hlt : R.length < 5 := by have : (R.length : Int) < 5 := by simpa using hlt
                                  omega
    walk_at "u"
    refine ⟨p, _, rfl, SqL.of hp3, fun p2 hp2 => ?_⟩
    have ecut : cutV (ps3.map V.ref) none (some 4) = ps3.map V.ref := by
      unfold cutV
      have e : HT.sIx (ps3.map V.ref).length (ps3.map V.ref).length (some 4) = min 4 (ps3.map V.ref).length := HT.sIx_nat _ _ 4
      rw [e]
      show ((ps3.map V.ref).drop 0).take _ = _
      rw [List.drop_zero]
      refine List.take_of_length_le ?_
      rw [refs_len]
      show _ ≤ min 4 ps3.length - 0
      omega
    rw [ecut]
    have sp2 := same_new (o := .lst (ps3.map V.ref)) (Same.refl H3) hp2
    refine ⟨rfl, p2, R, k, rfl, ⟨ps3, upd_same, pl3, fun i hi => sp2 _ _ (hrow3 i hi)⟩, tf, by omega, fun qa a10 a11 a12 A U H4 na nt hqa m10 m12 ao s4 => ?_⟩
    refine w_gT3 hqa ?_
    have e92 := sp2 _ _ e9
    exact rest1 A U a10 a11 a12 H4 (ne_of_none e92 na).symm m10 (.inr ⟨(ne_of_none e92 nt).symm, m12, ao⟩) (sp2.trans s4)
  · walk_at "u"
    refine ⟨by show 0 ≤ sizeLine; decide, fun a10 h10 => ?_⟩
    walk_at "u"
    refine ⟨by show 0 ≤ sizeLine; decide, fun a11 h11 => ?_⟩
    walk_at "u"
    refine ⟨by show 0 ≤ sizeLine; decide, fun a12 h12 => ?_⟩
    walk_at "u"
    refine ⟨by show 3 ≤ sizeLine; decide, fun qa hqa => ?_⟩
    refine w_gT3 upd_same ?_
    exact rest1 [] [] a10 a11 a12 _ (ne_of_none e9 h10).symm ⟨[], up_new hqa (up_new h12 (up_new h11 upd_same)), rfl, fun i hi => absurd hi (Nat.not_lt_zero i)⟩ (.inl rfl) (same_new (same_new (same_new (same_new (Same.refl H3) h10) h11) h12) hqa)
theorem ok__law_right (T : Txt G) : FnG (RoomG 6) P w G.K G.mg base (L2.CX P w) G.f__law_right G.d__law_right ["_law_source_here"] (sp__law_right G) := by
  refine fnG (R' := RoomG 5) T.F__law_right sc__law_right RoomG.ok (fun A env r => r.deeper env) (fun _ _ _ _ h => h.1) (fun cdv A outer s H vs Q E hr h => ⟨t__law_right G (fun cls d _ H => E cls d H), ?_, pure__law_right T vs H Q E h⟩)
  have tk : Takes (cxOf (L2.CX P w) P w G.K G.mg base ["_law_source_here", "_law_plan_here", "_law_letters", "_law_long_ones", "_law_thing", "_law_moves_here", "_law_first", "_law_marked", "_law_one", "_law_things", "_law_acts_here", "_law_words_so", "_law_table", "_law_word", "_law_odd", "_law_many", "_law_turn", "_law_k", "_law_act"] "_law_right" (defScope s__law_right) G.f__law_right cdv A outer s H E) (fun cls d _ H => E cls d H) := takes_of rfl rfl rfl rfl
  exact (pss_cons (ps_set (i := 1) sc__law_right.nd rfl (by first | exact Or.inl rfl | exact Or.inr rfl) (pe_call (ok__law_plan T) (hr.room.mono (by decide)) rfl T.g__law_plan T.F__law_plan.kp T.b__law_plan .nil passL (pa_cons (pv 0) (pa_cons pe_int pa_nil))))
    (pss_cons (ps_asg (pv 1) (pg_tup rfl (pgs_cons (pg_name (i := 5) sc__law_right.nd rfl (by first | exact Or.inl rfl | exact Or.inr rfl)) (pgs_cons (pg_name (i := 6) sc__law_right.nd rfl (by first | exact Or.inl rfl | exact Or.inr rfl)) (pgs_cons (pg_name (i := 7) sc__law_right.nd rfl (by first | exact Or.inl rfl | exact Or.inr rfl)) pgs_nil)))))
    (pss_cons (ps_set (i := 2) sc__law_right.nd rfl (by first | exact Or.inl rfl | exact Or.inr rfl) (pe_callB c_len (by rfl) T.n_len PySem.boot_len (pa_cons (pe_ix ix_list (pv 5) pe_int (fun _ _ => rfl)) pa_nil)))
    (pss_cons (ps_par (i := 8) (j := 9) rfl sc__law_right.nd rfl rfl (by decide) rfl rfl (pa_cons (pe_make T.mk_Automaton (ok_Automaton_init T) (hr.room.mono (by decide)) rfl T.gc_Automaton T.b_Automaton_init .nil passL (pa_cons (pv 5) (pa_cons (pv 6) (pa_cons (pv 7) pa_nil)))) (pa_cons (pe_lst pa_nil) pa_nil)) (by rfl))
    (pss_cons (ps_asg (pe_ifExp (pt_cmpR o_ltI (pe_callB c_len (by rfl) T.n_len PySem.boot_len (pa_cons (pv 5) pa_nil)) pe_int (nomark _)) (pe_call (ok__law_acts T) (hr.room.mono (by decide)) rfl T.g__law_acts T.F__law_acts.kp T.b__law_acts .nil passL (pa_cons (pe_slice sl_list (pv 5) po_none (po_some pe_int)) pa_nil)) (pe_tup (pa_cons (pe_lst pa_nil) (pa_cons (pe_lst pa_nil) (pa_cons (pe_lst pa_nil) pa_nil))))) (pg_tup rfl (pgs_cons (pg_name (i := 10) sc__law_right.nd rfl (by first | exact Or.inl rfl | exact Or.inr rfl)) (pgs_cons (pg_name (i := 11) sc__law_right.nd rfl (by first | exact Or.inl rfl | exact Or.inr rfl)) (pgs_cons (pg_name (i := 12) sc__law_right.nd rfl (by first | exact Or.inl rfl | exact Or.inr rfl)) pgs_nil)))))
    (pss_cons (ps_expr (pe_bm PySem.F.plainAttrs_list PySem.F.slot_list_append PySem.F.type_list_append mt_append (pv 9) (pa_cons (pv 8) pa_nil)))
    (pss_cons (ps_if (PW.pt (pw_and (pt_cmpR (op_neD (hu64 hr.room)) (pv 10) (pe_lst pa_nil) (nomark _)) (pw_and1 (pt_cmpR o_leI (pe_callB c_len (by rfl) T.n_len PySem.boot_len (pa_cons (pv 10) pa_nil)) pe_int (nomark _))))) (pss_one (ps_expr (pe_bm PySem.F.plainAttrs_list PySem.F.slot_list_append PySem.F.type_list_append mt_append (pv 9) (pa_cons (pe_make T.mk_Language (ok_Language_init T) (hr.room.mono (by decide)) rfl T.gc_Language T.b_Language_init .nil passL (pa_cons (pe_make T.mk_Monoid (ok_Monoid_init T) (hr.room.mono (by decide)) rfl T.gc_Monoid T.b_Monoid_init .nil passL (pa_cons (pv 12) pa_nil)) (pa_cons (pe_lc (own := [("_law_k", 17), ("_law_act", 18)]) (g := (gTup G.K 2 (gCons (gName 17) (gCons (gName 18) gNil)))) (tt := tTest (tOp (rIn G.K false) (tOp (rIxT G.K) (tVar 18) (tVar 6)) (tVar 7))) rfl sc__law_right.nd (pi_enum rfl T.n_enumerate (pa_cons (pv 10) pa_nil)) (blkOk_by (N := ["_law_source_here", "_law_plan_here", "_law_letters", "_law_long_ones", "_law_thing", "_law_moves_here", "_law_first", "_law_marked", "_law_one", "_law_things", "_law_acts_here", "_law_words_so", "_law_table", "_law_word", "_law_odd", "_law_many", "_law_turn", "_law_k", "_law_act"]) (sc := defScope s__law_right) (by decide +kernel)) (fun _ _ _ _ _ => pg_tup rfl (pgs_cons (pg_name (i := 17) sc__law_right.nd rfl (by first | exact Or.inl rfl | exact Or.inr rfl)) (pgs_cons (pg_name (i := 18) sc__law_right.nd rfl (by first | exact Or.inl rfl | exact Or.inr rfl)) pgs_nil))) (fun _ _ _ _ _ => pts_one (pt_cmpR op_in_seq (pe_ix ix_tup (pv 18) (pv 6) (fun _ _ => rfl)) (pv 7) (by with_unfolding_all rfl))) (fun _ _ _ _ _ => pv 17)) pa_nil))) pa_nil)))) pss_nil)
    (pss_cons (ps_setLc (i := 3) (own := [("_law_many", 15)]) (g := (gName 15)) (tt := tYes) rfl sc__law_right.nd rfl rfl (sw_true rfl rfl rfl (by decide +kernel)) (pi_tup (pe_tup (pa_cons pe_int (pa_cons pe_int pa_nil)))) (blkOk_by (N := ["_law_source_here", "_law_plan_here", "_law_letters", "_law_long_ones", "_law_thing", "_law_moves_here", "_law_first", "_law_marked", "_law_one", "_law_things", "_law_acts_here", "_law_words_so", "_law_table", "_law_word", "_law_odd", "_law_many", "_law_turn", "_law_k", "_law_act"]) (sc := defScope s__law_right) (by decide +kernel)) (fun _ _ _ _ _ => pg_name (i := 15) sc__law_right.nd rfl (by first | exact Or.inl rfl | exact Or.inr rfl)) (fun _ _ _ _ _ => pts_nil) (fun _ _ _ _ _ => pe_m1 PySem.F.slot_str_join PySem.F.type_str_join m_join pe_str (pe_lc (own := [("_law_turn", 16)]) (g := (gName 16)) (tt := tYes) rfl sc__law_right.nd (pi_range1 rfl T.n_range (pa_cons (pv 15) pa_nil)) (blkOk_nest (N0 := ["_law_source_here", "_law_plan_here", "_law_letters", "_law_long_ones", "_law_thing", "_law_moves_here", "_law_first", "_law_marked", "_law_one", "_law_things", "_law_acts_here", "_law_words_so", "_law_table", "_law_word", "_law_odd", "_law_many", "_law_turn", "_law_k", "_law_act"]) (nm := [(".0", .local), ("_law_many", .local), ("range", .globalImplicit), ("_law_letters", .cell), ("_law_source_here", .cell)]) rfl rfl (by decide +kernel)) (fun _ _ _ _ _ => pg_name (i := 16) sc__law_right.nd rfl (by first | exact Or.inl rfl | exact Or.inr rfl)) (fun _ _ _ _ _ => pts_nil) (fun _ _ _ _ _ => pe_call (ok__law_pick T) (hr.room.mono (by decide)) rfl T.g__law_pick T.F__law_pick.kp T.b__law_pick .nil passL (pa_cons (pv 0) (pa_cons (pe_callTy (c_listS rfl) (by rfl) T.n_list (by decide +kernel) (pa_cons (pe_slice sl_str pe_str po_none (po_some (pv 2))) pa_nil)) pa_nil))))))
    (pss_cons (ps_for (passes_of rfl) rfl (pi_list (pv 9)) (pg_name (i := 4) sc__law_right.nd rfl (by first | exact Or.inl rfl | exact Or.inr rfl)) (pss_cons (ps_for (passes_of rfl) rfl (pi_list (pe_op op_catS (pe_call (ok__law_all_words T) (hr.room.mono (by decide)) rfl T.g__law_all_words T.F__law_all_words.kp T.b__law_all_words .nil passL (pa_cons (pv 2) (pa_cons (pe_ix ix_list (pe_lst (pa_cons pe_int (pa_cons pe_int (pa_cons pe_int (pa_cons pe_int (pa_cons pe_int pa_nil)))))) (pv 2) (fun _ _ => rfl)) pa_nil))) (pv 3))) (pg_name (i := 13) sc__law_right.nd rfl (by first | exact Or.inl rfl | exact Or.inr rfl)) (pss_one (ps_if (pt_cmpR op_ne (pe_callB (c_repr hr.gs (hu64 hr.room)) (by rfl) T.n_repr (by decide +kernel) (pa_cons (pe_callS (ok_accepts T) (hr.room.mono (by decide)) rfl T.g_accepts T.F_accepts.kp T.b_accepts (fun σ => passAt tk σ) (pa_cons (pv 4) (pa_cons (pv 13) pa_nil))) pa_nil)) (pe_callB (c_repr hr.gs (hu64 hr.room)) (by rfl) T.n_repr (by decide +kernel) (pa_cons (pe_call (ok__law_has T) (hr.room.mono (by decide)) rfl T.g__law_has T.F__law_has.kp T.b__law_has .nil passL (pa_cons (pv 1) (pa_cons (pv 13) pa_nil))) pa_nil)) (nomark _)) (pss_one (ps_ret pe_bl)) pss_nil)))
    (pss_cons (ps_set (i := 14) sc__law_right.nd rfl (by first | exact Or.inl rfl | exact Or.inr rfl) (pe_lst (pa_cons (pe_ix ix_str pe_str (pv 2) (fun _ _ => rfl)) (pa_cons (pe_op o_addS (pe_op o_addS pe_str (pe_ix ix_str pe_str (pv 2) (fun _ _ => rfl))) pe_str) (pa_cons pe_str (pa_cons pe_str (pa_cons pe_str (pa_cons pe_non (pa_cons pe_int (pa_cons pe_bl (pa_cons (pe_lst (pa_cons pe_str pa_nil)) (pa_cons (pe_tup (pa_cons pe_str (pa_cons pe_str pa_nil))) (pa_cons pe_dnewK pa_nil)))))))))))))
    (pss_one (ps_for (passes_of rfl) rfl (pi_list (pe_op op_catS (pv 14) (pe_lst (pa_cons (pe_op op_repS pe_str pe_int) (pa_cons (pe_op o_addS (pe_ix ix_list (pv 3) pe_int (fun _ _ => rfl)) pe_str) (pa_cons pe_str (pa_cons pe_str (pa_cons pe_str pa_nil)))))))) (pg_name (i := 13) sc__law_right.nd rfl (by first | exact Or.inl rfl | exact Or.inr rfl)) (pss_one (ps_if (pt_not (pt_val (pe_callG (ok__law_refused T) (hr.mono (by decide)) rfl T.g__law_refused T.F__law_refused.kp T.b__law_refused (pa_cons (pv 4) (pa_cons (pv 13) pa_nil))))) (pss_one (ps_ret pe_bl)) pss_nil)))))))
    (pss_one (ps_ret (pe_cmpR (op_eqG (rq_Automaton T) (hr.room.mono (by decide))) (pv 8) (pe_make T.mk_Automaton (ok_Automaton_init T) (hr.room.mono (by decide)) rfl T.gc_Automaton T.b_Automaton_init .nil passL (pa_cons (pv 5) (pa_cons (pv 6) (pa_cons (pv 7) pa_nil)))) (nomark _)))))))))))))
def sp_lawK (K : PySem.W.Frag) : Sp := fun vs H Q _ => vs.length = 1 ∧ ∃ (a : Addr) (ns : List Int), vs = [.ref a] ∧ SqL K H a (ns.map V.int) ∧ ns.length ≤ 63 ∧ ∀ H', Q (.bl true) H'
def sp_law (G : Gx) := sp_lawK G.K
def t_law (G : Gx) (W : WX) : TS :=
  tSeq (tFor (iList G.K (tSl (rSlL G.K) (tOp (rCatS G.K) (tVar 0) (tLst (tCons (tC (.int 0)) tNil))) tNoPart (tPart (tC (.int 4))))) (gName 1) (tSeq (tAsg (tCall (sp__law_source G) [] E0 (tCons (tVar 1) tNil)) (gName 2))
  (tIfS (tNot (tB (tCall (sp__law_right G) [] E0 (tCons (tVar 2) tNil)))) (tRet (tC (.bl false))) tNext)))
  (tRet (tC (.bl true)))
theorem cut4_len (xs : List V) : (cutV xs none (some 4)).length ≤ 4 := by
  unfold cutV
  rw [List.length_take]
  have e : HT.sIx xs.length xs.length (some 4) = min 4 xs.length := HT.sIx_nat _ _ 4
  rw [e]
  omega
theorem cutV_mem {xs : List V} {lo hi : Option Int} {v : V} (h : v ∈ cutV xs lo hi) : v ∈ xs := List.mem_of_mem_drop (List.mem_of_mem_take h)
theorem pure_law (T : Txt G) (vs : List V) (H : Hp) (Q : VK) (E : XK) (h : sp_law G vs H Q E) : t_law G (fun cls d _ H => E cls d H) { nx := fun _ H' => Q .non H', rt := Q } (start ["_law_script", "_law_cell", "_law_source_here"] vs) H := by
  obtain ⟨_, a, ns, rfl, hs, hl, kQ⟩ := h
  unfold t_law
  walk_at "u"
  refine ⟨by show 1 ≤ sizeLine; decide, fun z hz => ?_⟩
  walk_at "u"
  have sH := same_new (o := .lst [.int 0]) (Same.refl H) hz
  refine ⟨a, z, _, _, rfl, rfl, sqL_same hs sH, SqL.of upd_same, by rw [List.length_map]; show ns.length + 1 ≤ sizeLine; rw [sizeLine_eq]; omega, fun c hc => ?_⟩
  have ei : ∀ v ∈ ns.map V.int ++ [.int 0], ∃ i : Int, v = .int i := fun v hv => by
    rcases List.mem_append.mp hv with hv | hv
    · obtain ⟨i, _, rfl⟩ := List.mem_map.mp hv
      exact ⟨i, rfl⟩
    · exact ⟨0, List.mem_singleton.mp hv⟩
  generalize ns.map V.int ++ [.int 0] = xs at ei
  walk_at "u"
  refine ⟨c, _, rfl, SqL.of upd_same, fun d hd => ?_⟩
  have hd4 := cut4_len xs
  have em : ∀ v ∈ cutV xs none (some 4), ∃ i : Int, v = .int i := fun v hv => ei v (cutV_mem hv)
  generalize cutV xs none (some 4) = cs at hd4 em
  refine ⟨d, rfl, ⟨_, SqL.of upd_same⟩, ?_⟩
  refine for_fixR (fixR_list G.K d cs) (fun i σ H' => (∃ x1 x2 : Option V, σ = [some (.ref a), x1, x2]) ∧ H' d = some (.lst cs)) (fun _ _ _ z => SqL.of z.2) ⟨⟨_, _, rfl⟩, upd_same⟩ (fun i σ Ha hi z => ?_) (fun σ Ha z => ?_)
  · obtain ⟨⟨x1, x2, rfl⟩, ed⟩ := z
    obtain ⟨j, hj⟩ := em (cs.getD i .non) (by rw [List.getD_eq_getElem?_getD, List.getElem?_eq_getElem hi]; exact List.getElem_mem hi)
    rw [hj]
    walk_at "u"
    refine ⟨rfl, j, rfl, fun p H2 np src s2 => ?_⟩
    walk_at "u"
    refine ⟨rfl, p, rfl, src, fun H3 b3 => ?_⟩
    walk_at "u"
    exact ⟨⟨_, _, rfl⟩, b3 _ _ (s2 _ _ ed) (ne_of_none ed np)⟩
  · obtain ⟨⟨x1, x2, rfl⟩, ed⟩ := z
    walk_at "u"
    exact kQ _
theorem ok_law (T : Txt G) : FnG (RoomG 12) P w G.K G.mg base (L2.CX P w) G.f_law G.d_law ["_law_script"] (sp_law G) := by
  refine fnG (R' := RoomG 11) T.F_law sc_law RoomG.ok (fun A env r => r.deeper env) (fun _ _ _ _ h => h.1) (fun cdv A outer s H vs Q E hr h => ⟨t_law G (fun cls d _ H => E cls d H), ?_, pure_law T vs H Q E h⟩)
  have tk : Takes (cxOf (L2.CX P w) P w G.K G.mg base ["_law_script", "_law_cell", "_law_source_here"] "law" (defScope s_law) G.f_law cdv A outer s H E) (fun cls d _ H => E cls d H) := takes_of rfl rfl rfl rfl
  exact (pss_cons (ps_for (passes_of rfl) rfl (pi_list (pe_slice sl_list (pe_op op_catS (pv 0) (pe_lst (pa_cons pe_int pa_nil))) po_none (po_some pe_int))) (pg_name (i := 1) sc_law.nd rfl (by first | exact Or.inl rfl | exact Or.inr rfl)) (pss_cons (ps_set (i := 2) sc_law.nd rfl (by first | exact Or.inl rfl | exact Or.inr rfl) (pe_call (ok__law_source T) (hr.room.mono (by decide)) rfl T.g__law_source T.F__law_source.kp T.b__law_source .nil passL (pa_cons (pv 1) pa_nil)))
    (pss_one (ps_if (pt_not (pt_val (pe_callG (ok__law_right T) (hr.mono (by decide)) rfl T.g__law_right T.F__law_right.kp T.b__law_right (pa_cons (pv 2) pa_nil)))) (pss_one (ps_ret pe_bl)) pss_nil))))
    (pss_one (ps_ret pe_bl)))

end
end K67

set_option Elab.async false
set_option linter.all false
set_option maxRecDepth 100000
set_option maxHeartbeats 4000000
namespace K67
open PySem PySem.Spec PyProof.Rows L2 LX
/-- the law: at most 63 ints in, True out -/
theorem sp_law_start {K : PySem.W.Frag} {H : Hp} {a : Addr} {ns : List Int} (h1 : ns.length ≤ 63) (h : SqL K H a (ns.map V.int)) : sp_lawK K [.ref a] H (fun v _ => v = .bl true) fun _ _ _ => False := ⟨rfl, a, ns, rfl, h, h1, fun _ => rfl⟩
theorem cx_none {P : Program} {w : World} {H : Hp} {s : Shared} {e : Value} {s' : Shared} (h : L2.CX P w [] H s (fun _ _ _ => False) e s') : False := by
  obtain ⟨_, _, _, _, _, _, _, _, _, _, _, _, z⟩ := h
  exact z
theorem law_end {P : Program} {w : World} {K : PySem.W.Frag} {h : Heap} {mg : Str → Option Value} (X : K.In h) (Ns : h.Ns mainGlobals mg)
    {f_NoWord_init : Addr} {od_NoWord_init an_NoWord_init : Option Addr} {sl_NoWord_init : Array (Option Value)} {oc_NoWord_init kV_NoWord_init dc_NoWord_init pm_NoWord_init cd_NoWord_init ct_NoWord_init : Value}
    {f_NoWord_told : Addr} {od_NoWord_told an_NoWord_told : Option Addr} {sl_NoWord_told : Array (Option Value)} {oc_NoWord_told kV_NoWord_told dc_NoWord_told pm_NoWord_told cd_NoWord_told ct_NoWord_told : Value}
    {f_Fact_eq : Addr} {od_Fact_eq an_Fact_eq : Option Addr} {sl_Fact_eq : Array (Option Value)} {oc_Fact_eq kV_Fact_eq dc_Fact_eq pm_Fact_eq cd_Fact_eq ct_Fact_eq : Value}
    {f_is_number : Addr} {od_is_number an_is_number : Option Addr} {sl_is_number : Array (Option Value)} {oc_is_number kV_is_number dc_is_number pm_is_number cd_is_number ct_is_number : Value}
    {f_is_sequence : Addr} {od_is_sequence an_is_sequence : Option Addr} {sl_is_sequence : Array (Option Value)} {oc_is_sequence kV_is_sequence dc_is_sequence pm_is_sequence cd_is_sequence ct_is_sequence : Value}
    {f_check_form : Addr} {od_check_form an_check_form : Option Addr} {sl_check_form : Array (Option Value)} {oc_check_form kV_check_form dc_check_form pm_check_form cd_check_form ct_check_form : Value}
    {f_check_order : Addr} {od_check_order an_check_order : Option Addr} {sl_check_order : Array (Option Value)} {oc_check_order kV_check_order dc_check_order pm_check_order cd_check_order ct_check_order : Value}
    {f_tree_of : Addr} {od_tree_of an_tree_of : Option Addr} {sl_tree_of : Array (Option Value)} {oc_tree_of kV_tree_of dc_tree_of pm_tree_of cd_tree_of ct_tree_of : Value}
    {f_left_of : Addr} {od_left_of an_left_of : Option Addr} {sl_left_of : Array (Option Value)} {oc_left_of kV_left_of dc_left_of pm_left_of cd_left_of ct_left_of : Value}
    {f_check_products : Addr} {od_check_products an_check_products : Option Addr} {sl_check_products : Array (Option Value)} {oc_check_products kV_check_products dc_check_products pm_check_products cd_check_products ct_check_products : Value}
    {f_Monoid_init : Addr} {od_Monoid_init an_Monoid_init : Option Addr} {sl_Monoid_init : Array (Option Value)} {oc_Monoid_init kV_Monoid_init dc_Monoid_init pm_Monoid_init cd_Monoid_init ct_Monoid_init : Value}
    {f_checked : Addr} {od_checked an_checked : Option Addr} {sl_checked : Array (Option Value)} {oc_checked kV_checked dc_checked pm_checked cd_checked ct_checked : Value}
    {f_is_below : Addr} {od_is_below an_is_below : Option Addr} {sl_is_below : Array (Option Value)} {oc_is_below kV_is_below dc_is_below pm_is_below cd_is_below ct_is_below : Value}
    {f_check_rows : Addr} {od_check_rows an_check_rows : Option Addr} {sl_check_rows : Array (Option Value)} {oc_check_rows kV_check_rows dc_check_rows pm_check_rows cd_check_rows ct_check_rows : Value}
    {f_Automaton_init : Addr} {od_Automaton_init an_Automaton_init : Option Addr} {sl_Automaton_init : Array (Option Value)} {oc_Automaton_init kV_Automaton_init dc_Automaton_init pm_Automaton_init cd_Automaton_init ct_Automaton_init : Value}
    {f_Automaton_settle : Addr} {od_Automaton_settle an_Automaton_settle : Option Addr} {sl_Automaton_settle : Array (Option Value)} {oc_Automaton_settle kV_Automaton_settle dc_Automaton_settle pm_Automaton_settle cd_Automaton_settle ct_Automaton_settle : Value}
    {f_Automaton_facts : Addr} {od_Automaton_facts an_Automaton_facts : Option Addr} {sl_Automaton_facts : Array (Option Value)} {oc_Automaton_facts kV_Automaton_facts dc_Automaton_facts pm_Automaton_facts cd_Automaton_facts ct_Automaton_facts : Value}
    {f_Language_init : Addr} {od_Language_init an_Language_init : Option Addr} {sl_Language_init : Array (Option Value)} {oc_Language_init kV_Language_init dc_Language_init pm_Language_init cd_Language_init ct_Language_init : Value}
    {f_table_of : Addr} {od_table_of an_table_of : Option Addr} {sl_table_of : Array (Option Value)} {oc_table_of kV_table_of dc_table_of pm_table_of cd_table_of ct_table_of : Value}
    {f_check_word : Addr} {od_check_word an_check_word : Option Addr} {sl_check_word : Array (Option Value)} {oc_check_word kV_check_word dc_check_word pm_check_word cd_check_word ct_check_word : Value}
    {f_accepts : Addr} {od_accepts an_accepts : Option Addr} {sl_accepts : Array (Option Value)} {oc_accepts kV_accepts dc_accepts pm_accepts cd_accepts ct_accepts : Value}
    {f__law_source : Addr} {od__law_source an__law_source : Option Addr} {sl__law_source : Array (Option Value)} {oc__law_source kV__law_source dc__law_source pm__law_source cd__law_source ct__law_source : Value}
    {f__law_draw : Addr} {od__law_draw an__law_draw : Option Addr} {sl__law_draw : Array (Option Value)} {oc__law_draw kV__law_draw dc__law_draw pm__law_draw cd__law_draw ct__law_draw : Value}
    {f__law_pick : Addr} {od__law_pick an__law_pick : Option Addr} {sl__law_pick : Array (Option Value)} {oc__law_pick kV__law_pick dc__law_pick pm__law_pick cd__law_pick ct__law_pick : Value}
    {f__law_moves : Addr} {od__law_moves an__law_moves : Option Addr} {sl__law_moves : Array (Option Value)} {oc__law_moves kV__law_moves dc__law_moves pm__law_moves cd__law_moves ct__law_moves : Value}
    {f__law_plan : Addr} {od__law_plan an__law_plan : Option Addr} {sl__law_plan : Array (Option Value)} {oc__law_plan kV__law_plan dc__law_plan pm__law_plan cd__law_plan ct__law_plan : Value}
    {f__law_all_words : Addr} {od__law_all_words an__law_all_words : Option Addr} {sl__law_all_words : Array (Option Value)} {oc__law_all_words kV__law_all_words dc__law_all_words pm__law_all_words cd__law_all_words ct__law_all_words : Value}
    {f__law_led : Addr} {od__law_led an__law_led : Option Addr} {sl__law_led : Array (Option Value)} {oc__law_led kV__law_led dc__law_led pm__law_led cd__law_led ct__law_led : Value}
    {f__law_has : Addr} {od__law_has an__law_has : Option Addr} {sl__law_has : Array (Option Value)} {oc__law_has kV__law_has dc__law_has pm__law_has cd__law_has ct__law_has : Value}
    {f__law_acts : Addr} {od__law_acts an__law_acts : Option Addr} {sl__law_acts : Array (Option Value)} {oc__law_acts kV__law_acts dc__law_acts pm__law_acts cd__law_acts ct__law_acts : Value}
    {f__law_refused : Addr} {od__law_refused an__law_refused : Option Addr} {sl__law_refused : Array (Option Value)} {oc__law_refused kV__law_refused dc__law_refused pm__law_refused cd__law_refused ct__law_refused : Value}
    {f__law_right : Addr} {od__law_right an__law_right : Option Addr} {sl__law_right : Array (Option Value)} {oc__law_right kV__law_right dc__law_right pm__law_right cd__law_right ct__law_right : Value}
    {f_law : Addr} {od_law an_law : Option Addr} {sl_law : Array (Option Value)} {oc_law kV_law dc_law pm_law cd_law ct_law : Value}
    {c_Fact : Addr}
    {c_Monoid : Addr}
    {c_Automaton : Addr}
    {c_Language : Addr}
    {c_NoWord : Addr}
    {nm_NoWord q_NoWord : Str} {N_NoWord : Addr} {bs_NoWord bm_NoWord : List Value} {sn_NoWord : List Str} {sub_NoWord : List Value} {ab_NoWord : Bool} {col_NoWord : Option Bool} {dd_NoWord : Option Addr} {m0_NoWord m1_NoWord m2_NoWord m3_NoWord m5_NoWord : Option Value}
    {c_FoldError : Addr}
    {u_MOST_ELEMENTS : Value}
    {u_MOST_LETTERS : Value}
    {u_SIGNS : Value}
    {u_MOST_STATES : Value}
    {u_MOST_MADE : Value}
    {u_MOST_SIGNS : Value}
    (a_NoWord_init : PySem.W.findIn K (.ref c_NoWord) "__init__" = some (some (.ref f_NoWord_init)))
    (t_NoWord_init : PySem.W.typeIn K (.ref f_NoWord_init) = some (.type "function"))
    (l_NoWord_init : K.lookup f_NoWord_init = some ⟨oc_NoWord_init, od_NoWord_init, .func (PySem.W.fnOf "__init__" "NoWord.__init__" (defArgs s_NoWord_init) (defBody s_NoWord_init) (defScope s_NoWord_init) .none kV_NoWord_init dc_NoWord_init pm_NoWord_init an_NoWord_init cd_NoWord_init ct_NoWord_init), sl_NoWord_init⟩)
    (e_NoWord_init : PySem.W.codeIn K cd_NoWord_init "NoWord.__init__" = true)
    (k_NoWord_init : PySem.W.keepIn K (.ref f_NoWord_init) = true)
    (a_NoWord_told : PySem.W.findIn K (.ref c_NoWord) "told" = some (some (.ref f_NoWord_told)))
    (t_NoWord_told : PySem.W.typeIn K (.ref f_NoWord_told) = some (.type "function"))
    (l_NoWord_told : K.lookup f_NoWord_told = some ⟨oc_NoWord_told, od_NoWord_told, .func (PySem.W.fnOf "told" "NoWord.told" (defArgs s_NoWord_told) (defBody s_NoWord_told) (defScope s_NoWord_told) .none kV_NoWord_told dc_NoWord_told pm_NoWord_told an_NoWord_told cd_NoWord_told ct_NoWord_told), sl_NoWord_told⟩)
    (e_NoWord_told : PySem.W.codeIn K cd_NoWord_told "NoWord.told" = true)
    (k_NoWord_told : PySem.W.keepIn K (.ref f_NoWord_told) = true)
    (a_Fact_eq : PySem.W.findIn K (.ref c_Fact) "__eq__" = some (some (.ref f_Fact_eq)))
    (i_Fact_eq : PySem.W.isFn K (.ref f_Fact_eq) = true)
    (l_Fact_eq : K.lookup f_Fact_eq = some ⟨oc_Fact_eq, od_Fact_eq, .func (PySem.W.fnOf "__eq__" "Fact.__eq__" (defArgs s_Fact_eq) (defBody s_Fact_eq) (defScope s_Fact_eq) .none kV_Fact_eq dc_Fact_eq pm_Fact_eq an_Fact_eq cd_Fact_eq ct_Fact_eq), sl_Fact_eq⟩)
    (e_Fact_eq : PySem.W.codeIn K cd_Fact_eq "Fact.__eq__" = true)
    (k_Fact_eq : PySem.W.keepIn K (.ref f_Fact_eq) = true)
    (a_is_number : PySem.W.nsIn K mainGlobals "is_number" = some (some (.ref f_is_number)))
    (l_is_number : K.lookup f_is_number = some ⟨oc_is_number, od_is_number, .func (PySem.W.fnOf "is_number" "is_number" (defArgs s_is_number) (defBody s_is_number) (defScope s_is_number) .none kV_is_number dc_is_number pm_is_number an_is_number cd_is_number ct_is_number), sl_is_number⟩)
    (e_is_number : PySem.W.codeIn K cd_is_number "is_number" = true)
    (k_is_number : PySem.W.keepIn K (.ref f_is_number) = true)
    (a_is_sequence : PySem.W.nsIn K mainGlobals "is_sequence" = some (some (.ref f_is_sequence)))
    (l_is_sequence : K.lookup f_is_sequence = some ⟨oc_is_sequence, od_is_sequence, .func (PySem.W.fnOf "is_sequence" "is_sequence" (defArgs s_is_sequence) (defBody s_is_sequence) (defScope s_is_sequence) .none kV_is_sequence dc_is_sequence pm_is_sequence an_is_sequence cd_is_sequence ct_is_sequence), sl_is_sequence⟩)
    (e_is_sequence : PySem.W.codeIn K cd_is_sequence "is_sequence" = true)
    (k_is_sequence : PySem.W.keepIn K (.ref f_is_sequence) = true)
    (a_check_form : PySem.W.nsIn K mainGlobals "check_form" = some (some (.ref f_check_form)))
    (l_check_form : K.lookup f_check_form = some ⟨oc_check_form, od_check_form, .func (PySem.W.fnOf "check_form" "check_form" (defArgs s_check_form) (defBody s_check_form) (defScope s_check_form) .none kV_check_form dc_check_form pm_check_form an_check_form cd_check_form ct_check_form), sl_check_form⟩)
    (e_check_form : PySem.W.codeIn K cd_check_form "check_form" = true)
    (k_check_form : PySem.W.keepIn K (.ref f_check_form) = true)
    (a_check_order : PySem.W.nsIn K mainGlobals "check_order" = some (some (.ref f_check_order)))
    (l_check_order : K.lookup f_check_order = some ⟨oc_check_order, od_check_order, .func (PySem.W.fnOf "check_order" "check_order" (defArgs s_check_order) (defBody s_check_order) (defScope s_check_order) .none kV_check_order dc_check_order pm_check_order an_check_order cd_check_order ct_check_order), sl_check_order⟩)
    (e_check_order : PySem.W.codeIn K cd_check_order "check_order" = true)
    (k_check_order : PySem.W.keepIn K (.ref f_check_order) = true)
    (a_tree_of : PySem.W.nsIn K mainGlobals "tree_of" = some (some (.ref f_tree_of)))
    (l_tree_of : K.lookup f_tree_of = some ⟨oc_tree_of, od_tree_of, .func (PySem.W.fnOf "tree_of" "tree_of" (defArgs s_tree_of) (defBody s_tree_of) (defScope s_tree_of) .none kV_tree_of dc_tree_of pm_tree_of an_tree_of cd_tree_of ct_tree_of), sl_tree_of⟩)
    (e_tree_of : PySem.W.codeIn K cd_tree_of "tree_of" = true)
    (k_tree_of : PySem.W.keepIn K (.ref f_tree_of) = true)
    (a_left_of : PySem.W.nsIn K mainGlobals "left_of" = some (some (.ref f_left_of)))
    (l_left_of : K.lookup f_left_of = some ⟨oc_left_of, od_left_of, .func (PySem.W.fnOf "left_of" "left_of" (defArgs s_left_of) (defBody s_left_of) (defScope s_left_of) .none kV_left_of dc_left_of pm_left_of an_left_of cd_left_of ct_left_of), sl_left_of⟩)
    (e_left_of : PySem.W.codeIn K cd_left_of "left_of" = true)
    (k_left_of : PySem.W.keepIn K (.ref f_left_of) = true)
    (a_check_products : PySem.W.nsIn K mainGlobals "check_products" = some (some (.ref f_check_products)))
    (l_check_products : K.lookup f_check_products = some ⟨oc_check_products, od_check_products, .func (PySem.W.fnOf "check_products" "check_products" (defArgs s_check_products) (defBody s_check_products) (defScope s_check_products) .none kV_check_products dc_check_products pm_check_products an_check_products cd_check_products ct_check_products), sl_check_products⟩)
    (e_check_products : PySem.W.codeIn K cd_check_products "check_products" = true)
    (k_check_products : PySem.W.keepIn K (.ref f_check_products) = true)
    (a_Monoid_init : PySem.W.findIn K (.ref c_Monoid) "__init__" = some (some (.ref f_Monoid_init)))
    (i_Monoid_init : PySem.W.isFn K (.ref f_Monoid_init) = true)
    (l_Monoid_init : K.lookup f_Monoid_init = some ⟨oc_Monoid_init, od_Monoid_init, .func (PySem.W.fnOf "__init__" "Monoid.__init__" (defArgs s_Monoid_init) (defBody s_Monoid_init) (defScope s_Monoid_init) .none kV_Monoid_init dc_Monoid_init pm_Monoid_init an_Monoid_init cd_Monoid_init ct_Monoid_init), sl_Monoid_init⟩)
    (e_Monoid_init : PySem.W.codeIn K cd_Monoid_init "Monoid.__init__" = true)
    (k_Monoid_init : PySem.W.keepIn K (.ref f_Monoid_init) = true)
    (a_checked : PySem.W.nsIn K mainGlobals "checked" = some (some (.ref f_checked)))
    (l_checked : K.lookup f_checked = some ⟨oc_checked, od_checked, .func (PySem.W.fnOf "checked" "checked" (defArgs s_checked) (defBody s_checked) (defScope s_checked) .none kV_checked dc_checked pm_checked an_checked cd_checked ct_checked), sl_checked⟩)
    (e_checked : PySem.W.codeIn K cd_checked "checked" = true)
    (k_checked : PySem.W.keepIn K (.ref f_checked) = true)
    (a_is_below : PySem.W.nsIn K mainGlobals "is_below" = some (some (.ref f_is_below)))
    (l_is_below : K.lookup f_is_below = some ⟨oc_is_below, od_is_below, .func (PySem.W.fnOf "is_below" "is_below" (defArgs s_is_below) (defBody s_is_below) (defScope s_is_below) .none kV_is_below dc_is_below pm_is_below an_is_below cd_is_below ct_is_below), sl_is_below⟩)
    (e_is_below : PySem.W.codeIn K cd_is_below "is_below" = true)
    (k_is_below : PySem.W.keepIn K (.ref f_is_below) = true)
    (a_check_rows : PySem.W.nsIn K mainGlobals "check_rows" = some (some (.ref f_check_rows)))
    (l_check_rows : K.lookup f_check_rows = some ⟨oc_check_rows, od_check_rows, .func (PySem.W.fnOf "check_rows" "check_rows" (defArgs s_check_rows) (defBody s_check_rows) (defScope s_check_rows) .none kV_check_rows dc_check_rows pm_check_rows an_check_rows cd_check_rows ct_check_rows), sl_check_rows⟩)
    (e_check_rows : PySem.W.codeIn K cd_check_rows "check_rows" = true)
    (k_check_rows : PySem.W.keepIn K (.ref f_check_rows) = true)
    (a_Automaton_init : PySem.W.findIn K (.ref c_Automaton) "__init__" = some (some (.ref f_Automaton_init)))
    (i_Automaton_init : PySem.W.isFn K (.ref f_Automaton_init) = true)
    (l_Automaton_init : K.lookup f_Automaton_init = some ⟨oc_Automaton_init, od_Automaton_init, .func (PySem.W.fnOf "__init__" "Automaton.__init__" (defArgs s_Automaton_init) (defBody s_Automaton_init) (defScope s_Automaton_init) .none kV_Automaton_init dc_Automaton_init pm_Automaton_init an_Automaton_init cd_Automaton_init ct_Automaton_init), sl_Automaton_init⟩)
    (e_Automaton_init : PySem.W.codeIn K cd_Automaton_init "Automaton.__init__" = true)
    (k_Automaton_init : PySem.W.keepIn K (.ref f_Automaton_init) = true)
    (a_Automaton_settle : PySem.W.findIn K (.ref c_Automaton) "settle" = some (some (.ref f_Automaton_settle)))
    (i_Automaton_settle : PySem.W.isFn K (.ref f_Automaton_settle) = true)
    (l_Automaton_settle : K.lookup f_Automaton_settle = some ⟨oc_Automaton_settle, od_Automaton_settle, .func (PySem.W.fnOf "settle" "Automaton.settle" (defArgs s_Automaton_settle) (defBody s_Automaton_settle) (defScope s_Automaton_settle) .none kV_Automaton_settle dc_Automaton_settle pm_Automaton_settle an_Automaton_settle cd_Automaton_settle ct_Automaton_settle), sl_Automaton_settle⟩)
    (e_Automaton_settle : PySem.W.codeIn K cd_Automaton_settle "Automaton.settle" = true)
    (k_Automaton_settle : PySem.W.keepIn K (.ref f_Automaton_settle) = true)
    (a_Automaton_facts : PySem.W.findIn K (.ref c_Automaton) "facts" = some (some (.ref f_Automaton_facts)))
    (i_Automaton_facts : PySem.W.isFn K (.ref f_Automaton_facts) = true)
    (l_Automaton_facts : K.lookup f_Automaton_facts = some ⟨oc_Automaton_facts, od_Automaton_facts, .func (PySem.W.fnOf "facts" "Automaton.facts" (defArgs s_Automaton_facts) (defBody s_Automaton_facts) (defScope s_Automaton_facts) .none kV_Automaton_facts dc_Automaton_facts pm_Automaton_facts an_Automaton_facts cd_Automaton_facts ct_Automaton_facts), sl_Automaton_facts⟩)
    (e_Automaton_facts : PySem.W.codeIn K cd_Automaton_facts "Automaton.facts" = true)
    (k_Automaton_facts : PySem.W.keepIn K (.ref f_Automaton_facts) = true)
    (a_Language_init : PySem.W.findIn K (.ref c_Language) "__init__" = some (some (.ref f_Language_init)))
    (i_Language_init : PySem.W.isFn K (.ref f_Language_init) = true)
    (l_Language_init : K.lookup f_Language_init = some ⟨oc_Language_init, od_Language_init, .func (PySem.W.fnOf "__init__" "Language.__init__" (defArgs s_Language_init) (defBody s_Language_init) (defScope s_Language_init) .none kV_Language_init dc_Language_init pm_Language_init an_Language_init cd_Language_init ct_Language_init), sl_Language_init⟩)
    (e_Language_init : PySem.W.codeIn K cd_Language_init "Language.__init__" = true)
    (k_Language_init : PySem.W.keepIn K (.ref f_Language_init) = true)
    (a_table_of : PySem.W.nsIn K mainGlobals "table_of" = some (some (.ref f_table_of)))
    (l_table_of : K.lookup f_table_of = some ⟨oc_table_of, od_table_of, .func (PySem.W.fnOf "table_of" "table_of" (defArgs s_table_of) (defBody s_table_of) (defScope s_table_of) .none kV_table_of dc_table_of pm_table_of an_table_of cd_table_of ct_table_of), sl_table_of⟩)
    (e_table_of : PySem.W.codeIn K cd_table_of "table_of" = true)
    (k_table_of : PySem.W.keepIn K (.ref f_table_of) = true)
    (a_check_word : PySem.W.nsIn K mainGlobals "check_word" = some (some (.ref f_check_word)))
    (l_check_word : K.lookup f_check_word = some ⟨oc_check_word, od_check_word, .func (PySem.W.fnOf "check_word" "check_word" (defArgs s_check_word) (defBody s_check_word) (defScope s_check_word) .none kV_check_word dc_check_word pm_check_word an_check_word cd_check_word ct_check_word), sl_check_word⟩)
    (e_check_word : PySem.W.codeIn K cd_check_word "check_word" = true)
    (k_check_word : PySem.W.keepIn K (.ref f_check_word) = true)
    (a_accepts : PySem.W.nsIn K mainGlobals "accepts" = some (some (.ref f_accepts)))
    (l_accepts : K.lookup f_accepts = some ⟨oc_accepts, od_accepts, .func (PySem.W.fnOf "accepts" "accepts" (defArgs s_accepts) (defBody s_accepts) (defScope s_accepts) .none kV_accepts dc_accepts pm_accepts an_accepts cd_accepts ct_accepts), sl_accepts⟩)
    (e_accepts : PySem.W.codeIn K cd_accepts "accepts" = true)
    (k_accepts : PySem.W.keepIn K (.ref f_accepts) = true)
    (a__law_source : PySem.W.nsIn K mainGlobals "_law_source" = some (some (.ref f__law_source)))
    (l__law_source : K.lookup f__law_source = some ⟨oc__law_source, od__law_source, .func (PySem.W.fnOf "_law_source" "_law_source" (defArgs s__law_source) (defBody s__law_source) (defScope s__law_source) .none kV__law_source dc__law_source pm__law_source an__law_source cd__law_source ct__law_source), sl__law_source⟩)
    (e__law_source : PySem.W.codeIn K cd__law_source "_law_source" = true)
    (k__law_source : PySem.W.keepIn K (.ref f__law_source) = true)
    (a__law_draw : PySem.W.nsIn K mainGlobals "_law_draw" = some (some (.ref f__law_draw)))
    (l__law_draw : K.lookup f__law_draw = some ⟨oc__law_draw, od__law_draw, .func (PySem.W.fnOf "_law_draw" "_law_draw" (defArgs s__law_draw) (defBody s__law_draw) (defScope s__law_draw) .none kV__law_draw dc__law_draw pm__law_draw an__law_draw cd__law_draw ct__law_draw), sl__law_draw⟩)
    (e__law_draw : PySem.W.codeIn K cd__law_draw "_law_draw" = true)
    (k__law_draw : PySem.W.keepIn K (.ref f__law_draw) = true)
    (a__law_pick : PySem.W.nsIn K mainGlobals "_law_pick" = some (some (.ref f__law_pick)))
    (l__law_pick : K.lookup f__law_pick = some ⟨oc__law_pick, od__law_pick, .func (PySem.W.fnOf "_law_pick" "_law_pick" (defArgs s__law_pick) (defBody s__law_pick) (defScope s__law_pick) .none kV__law_pick dc__law_pick pm__law_pick an__law_pick cd__law_pick ct__law_pick), sl__law_pick⟩)
    (e__law_pick : PySem.W.codeIn K cd__law_pick "_law_pick" = true)
    (k__law_pick : PySem.W.keepIn K (.ref f__law_pick) = true)
    (a__law_moves : PySem.W.nsIn K mainGlobals "_law_moves" = some (some (.ref f__law_moves)))
    (l__law_moves : K.lookup f__law_moves = some ⟨oc__law_moves, od__law_moves, .func (PySem.W.fnOf "_law_moves" "_law_moves" (defArgs s__law_moves) (defBody s__law_moves) (defScope s__law_moves) .none kV__law_moves dc__law_moves pm__law_moves an__law_moves cd__law_moves ct__law_moves), sl__law_moves⟩)
    (e__law_moves : PySem.W.codeIn K cd__law_moves "_law_moves" = true)
    (k__law_moves : PySem.W.keepIn K (.ref f__law_moves) = true)
    (a__law_plan : PySem.W.nsIn K mainGlobals "_law_plan" = some (some (.ref f__law_plan)))
    (l__law_plan : K.lookup f__law_plan = some ⟨oc__law_plan, od__law_plan, .func (PySem.W.fnOf "_law_plan" "_law_plan" (defArgs s__law_plan) (defBody s__law_plan) (defScope s__law_plan) .none kV__law_plan dc__law_plan pm__law_plan an__law_plan cd__law_plan ct__law_plan), sl__law_plan⟩)
    (e__law_plan : PySem.W.codeIn K cd__law_plan "_law_plan" = true)
    (k__law_plan : PySem.W.keepIn K (.ref f__law_plan) = true)
    (a__law_all_words : PySem.W.nsIn K mainGlobals "_law_all_words" = some (some (.ref f__law_all_words)))
    (l__law_all_words : K.lookup f__law_all_words = some ⟨oc__law_all_words, od__law_all_words, .func (PySem.W.fnOf "_law_all_words" "_law_all_words" (defArgs s__law_all_words) (defBody s__law_all_words) (defScope s__law_all_words) .none kV__law_all_words dc__law_all_words pm__law_all_words an__law_all_words cd__law_all_words ct__law_all_words), sl__law_all_words⟩)
    (e__law_all_words : PySem.W.codeIn K cd__law_all_words "_law_all_words" = true)
    (k__law_all_words : PySem.W.keepIn K (.ref f__law_all_words) = true)
    (a__law_led : PySem.W.nsIn K mainGlobals "_law_led" = some (some (.ref f__law_led)))
    (l__law_led : K.lookup f__law_led = some ⟨oc__law_led, od__law_led, .func (PySem.W.fnOf "_law_led" "_law_led" (defArgs s__law_led) (defBody s__law_led) (defScope s__law_led) .none kV__law_led dc__law_led pm__law_led an__law_led cd__law_led ct__law_led), sl__law_led⟩)
    (e__law_led : PySem.W.codeIn K cd__law_led "_law_led" = true)
    (k__law_led : PySem.W.keepIn K (.ref f__law_led) = true)
    (a__law_has : PySem.W.nsIn K mainGlobals "_law_has" = some (some (.ref f__law_has)))
    (l__law_has : K.lookup f__law_has = some ⟨oc__law_has, od__law_has, .func (PySem.W.fnOf "_law_has" "_law_has" (defArgs s__law_has) (defBody s__law_has) (defScope s__law_has) .none kV__law_has dc__law_has pm__law_has an__law_has cd__law_has ct__law_has), sl__law_has⟩)
    (e__law_has : PySem.W.codeIn K cd__law_has "_law_has" = true)
    (k__law_has : PySem.W.keepIn K (.ref f__law_has) = true)
    (a__law_acts : PySem.W.nsIn K mainGlobals "_law_acts" = some (some (.ref f__law_acts)))
    (l__law_acts : K.lookup f__law_acts = some ⟨oc__law_acts, od__law_acts, .func (PySem.W.fnOf "_law_acts" "_law_acts" (defArgs s__law_acts) (defBody s__law_acts) (defScope s__law_acts) .none kV__law_acts dc__law_acts pm__law_acts an__law_acts cd__law_acts ct__law_acts), sl__law_acts⟩)
    (e__law_acts : PySem.W.codeIn K cd__law_acts "_law_acts" = true)
    (k__law_acts : PySem.W.keepIn K (.ref f__law_acts) = true)
    (a__law_refused : PySem.W.nsIn K mainGlobals "_law_refused" = some (some (.ref f__law_refused)))
    (l__law_refused : K.lookup f__law_refused = some ⟨oc__law_refused, od__law_refused, .func (PySem.W.fnOf "_law_refused" "_law_refused" (defArgs s__law_refused) (defBody s__law_refused) (defScope s__law_refused) .none kV__law_refused dc__law_refused pm__law_refused an__law_refused cd__law_refused ct__law_refused), sl__law_refused⟩)
    (e__law_refused : PySem.W.codeIn K cd__law_refused "_law_refused" = true)
    (k__law_refused : PySem.W.keepIn K (.ref f__law_refused) = true)
    (a__law_right : PySem.W.nsIn K mainGlobals "_law_right" = some (some (.ref f__law_right)))
    (l__law_right : K.lookup f__law_right = some ⟨oc__law_right, od__law_right, .func (PySem.W.fnOf "_law_right" "_law_right" (defArgs s__law_right) (defBody s__law_right) (defScope s__law_right) .none kV__law_right dc__law_right pm__law_right an__law_right cd__law_right ct__law_right), sl__law_right⟩)
    (e__law_right : PySem.W.codeIn K cd__law_right "_law_right" = true)
    (k__law_right : PySem.W.keepIn K (.ref f__law_right) = true)
    (a_law : PySem.W.nsIn K mainGlobals "law" = some (some (.ref f_law)))
    (l_law : K.lookup f_law = some ⟨oc_law, od_law, .func (PySem.W.fnOf "law" "law" (defArgs s_law) (defBody s_law) (defScope s_law) .none kV_law dc_law pm_law an_law cd_law ct_law), sl_law⟩)
    (e_law : PySem.W.codeIn K cd_law "law" = true)
    (k_law : PySem.W.keepIn K (.ref f_law) = true)
    (ac_Fact : PySem.W.nsIn K mainGlobals "Fact" = some (some (.ref c_Fact)))
    (pg_Fact : PySem.W.plainGet K c_Fact Str.empty = true)
    (hd_Fact : PySem.W.hasDictIn K c_Fact = true)
    (po_Fact : PySem.W.plainOver K c_Fact = true)
    (sa_Fact : PySem.W.findIn K (.ref c_Fact) "__setattr__" = some (some (.builtin "object.__setattr__")))
    (ac_Monoid : PySem.W.nsIn K mainGlobals "Monoid" = some (some (.ref c_Monoid)))
    (pg_Monoid : PySem.W.plainGet K c_Monoid Str.empty = true)
    (hd_Monoid : PySem.W.hasDictIn K c_Monoid = true)
    (po_Monoid : PySem.W.plainOver K c_Monoid = true)
    (sa_Monoid : PySem.W.findIn K (.ref c_Monoid) "__setattr__" = some (some (.builtin "object.__setattr__")))
    (mk_Monoid : PySem.W.makesIn K c_Monoid = true)
    (kc_Monoid : PySem.W.keepIn K (.ref c_Monoid) = true)
    (na_Monoid_right : PySem.W.findIn K (.ref c_Monoid) "right" = some none)
    (na_Monoid_tree : PySem.W.findIn K (.ref c_Monoid) "tree" = some none)
    (na_Monoid_lefts : PySem.W.findIn K (.ref c_Monoid) "lefts" = some none)
    (na_Monoid_memory : PySem.W.findIn K (.ref c_Monoid) "memory" = some none)
    (ac_Automaton : PySem.W.nsIn K mainGlobals "Automaton" = some (some (.ref c_Automaton)))
    (pg_Automaton : PySem.W.plainGet K c_Automaton Str.empty = true)
    (hd_Automaton : PySem.W.hasDictIn K c_Automaton = true)
    (po_Automaton : PySem.W.plainOver K c_Automaton = true)
    (sa_Automaton : PySem.W.findIn K (.ref c_Automaton) "__setattr__" = some (some (.builtin "object.__setattr__")))
    (mk_Automaton : PySem.W.makesIn K c_Automaton = true)
    (kc_Automaton : PySem.W.keepIn K (.ref c_Automaton) = true)
    (na_Automaton_rows : PySem.W.findIn K (.ref c_Automaton) "rows" = some none)
    (na_Automaton_start : PySem.W.findIn K (.ref c_Automaton) "start" = some none)
    (na_Automaton_accepted : PySem.W.findIn K (.ref c_Automaton) "accepted" = some none)
    (na_Automaton_memory : PySem.W.findIn K (.ref c_Automaton) "memory" = some none)
    (ac_Language : PySem.W.nsIn K mainGlobals "Language" = some (some (.ref c_Language)))
    (pg_Language : PySem.W.plainGet K c_Language Str.empty = true)
    (hd_Language : PySem.W.hasDictIn K c_Language = true)
    (po_Language : PySem.W.plainOver K c_Language = true)
    (sa_Language : PySem.W.findIn K (.ref c_Language) "__setattr__" = some (some (.builtin "object.__setattr__")))
    (mk_Language : PySem.W.makesIn K c_Language = true)
    (kc_Language : PySem.W.keepIn K (.ref c_Language) = true)
    (na_Language_monoid : PySem.W.findIn K (.ref c_Language) "monoid" = some none)
    (na_Language_accepted : PySem.W.findIn K (.ref c_Language) "accepted" = some none)
    (na_Language_memory : PySem.W.findIn K (.ref c_Language) "memory" = some none)
    (ac_NoWord : PySem.W.nsIn K mainGlobals "NoWord" = some (some (.ref c_NoWord)))
    (x_NoWord : K.lookup c_NoWord = some (excClassObj nm_NoWord q_NoWord c_NoWord N_NoWord bs_NoWord bm_NoWord true sn_NoWord sub_NoWord ab_NoWord col_NoWord dd_NoWord m0_NoWord m1_NoWord m2_NoWord m3_NoWord m5_NoWord "ValueError.__new__"))
    (rv_NoWord : PySem.HandSPX.refsVE bm_NoWord = true)
    (sa_NoWord : PySem.W.findIn K (.ref c_NoWord) "__setattr__" = some (some (.builtin "object.__setattr__")))
    (ga_NoWord : PySem.W.findIn K (.ref c_NoWord) "__getattribute__" = some (some (.builtin "BaseException.__getattribute__")))
    (gg_NoWord : PySem.W.findIn K (.ref c_NoWord) "__getattr__" = some none)
    (ex_NoWord : PySem.W.subIn K (.ref c_NoWord) (.type "BaseException") = some true)
    (ty_NoWord : PySem.W.typeIn K (.ref c_NoWord) = some (.type "type"))
    (hd_NoWord : PySem.W.hasDictIn K c_NoWord = true)
    (kc_NoWord : PySem.W.keepIn K (.ref c_NoWord) = true)
    (no_NoWord_word : PySem.W.findIn K (.ref c_NoWord) "word" = some none)
    (ac_FoldError : PySem.W.nsIn K mainGlobals "FoldError" = some (some (.ref c_FoldError)))
    (q_NoWord_NoWord : PySem.W.subIn K (.ref c_NoWord) (.ref c_NoWord) = some true)
    (cx_NoWord_NoWord : PySem.W.subIn K (.ref c_NoWord) (.type "BaseException") = some true ∧ PySem.W.isClsIn K c_NoWord = true ∧ PySem.W.typeIn K (.ref c_NoWord) = some (.type "type"))
    (eq_Automaton : PySem.W.findIn K (.ref c_Automaton) "__eq__" = some (some (.ref f_Fact_eq)))
    (g1_cls : PySem.W.specialIn K (.builtin "object.__class__") "__get__" = some (some (.builtin "getset_descriptor.__get__")))
    (g2_cls : PySem.W.takesIn K (.builtin "object.__class__") = some true)
    (g3_Monoid : PySem.W.findIn K (.ref c_Monoid) "__class__" = some (some (.builtin "object.__class__")))
    (g4_Monoid : PySem.W.mroIn K c_Monoid (.type "object") = some true)
    (g3_Automaton : PySem.W.findIn K (.ref c_Automaton) "__class__" = some (some (.builtin "object.__class__")))
    (g4_Automaton : PySem.W.mroIn K c_Automaton (.type "object") = some true)
    (g3_Language : PySem.W.findIn K (.ref c_Language) "__class__" = some (some (.builtin "object.__class__")))
    (g4_Language : PySem.W.mroIn K c_Language (.type "object") = some true)
    (kt_Automaton_Language : PySem.W.kitOne K (.ref c_Automaton) (.ref c_Language) = some false)
    (kt_Automaton_Automaton : PySem.W.kitOne K (.ref c_Automaton) (.ref c_Automaton) = some true)
    (kt_Language_Language : PySem.W.kitOne K (.ref c_Language) (.ref c_Language) = some true)
    (kt_Monoid_Monoid : PySem.W.kitOne K (.ref c_Monoid) (.ref c_Monoid) = some true)
    (kt_Automaton_Fact : PySem.W.kitOne K (.ref c_Automaton) (.ref c_Fact) = some true)
    (ak_MOST_ELEMENTS : PySem.W.nsIn K mainGlobals "MOST_ELEMENTS" = some (some u_MOST_ELEMENTS))
    (rk_MOST_ELEMENTS : RelV (.int 2000) u_MOST_ELEMENTS)
    (ak_MOST_LETTERS : PySem.W.nsIn K mainGlobals "MOST_LETTERS" = some (some u_MOST_LETTERS))
    (rk_MOST_LETTERS : RelV (.int 6) u_MOST_LETTERS)
    (ak_SIGNS : PySem.W.nsIn K mainGlobals "SIGNS" = some (some u_SIGNS))
    (rk_SIGNS : RelV (.str "abcd") u_SIGNS)
    (ak_MOST_STATES : PySem.W.nsIn K mainGlobals "MOST_STATES" = some (some u_MOST_STATES))
    (rk_MOST_STATES : RelV (.int 40) u_MOST_STATES)
    (ak_MOST_MADE : PySem.W.nsIn K mainGlobals "MOST_MADE" = some (some u_MOST_MADE))
    (rk_MOST_MADE : RelV (.int 500) u_MOST_MADE)
    (ak_MOST_SIGNS : PySem.W.nsIn K mainGlobals "MOST_SIGNS" = some (some u_MOST_SIGNS))
    (rk_MOST_SIGNS : RelV (.int 300) u_MOST_SIGNS)
    (z_len : PySem.W.nsIn K mainGlobals "len" = some none)
    (z_int : PySem.W.nsIn K mainGlobals "int" = some none)
    (z_abs : PySem.W.nsIn K mainGlobals "abs" = some none)
    (z_isinstance : PySem.W.nsIn K mainGlobals "isinstance" = some none)
    (z_tuple : PySem.W.nsIn K mainGlobals "tuple" = some none)
    (z_range : PySem.W.nsIn K mainGlobals "range" = some none)
    (z_enumerate : PySem.W.nsIn K mainGlobals "enumerate" = some none)
    (z_str : PySem.W.nsIn K mainGlobals "str" = some none)
    (z_list : PySem.W.nsIn K mainGlobals "list" = some none)
    (z_bool : PySem.W.nsIn K mainGlobals "bool" = some none)
    (z_all : PySem.W.nsIn K mainGlobals "all" = some none)
    (z_sorted : PySem.W.nsIn K mainGlobals "sorted" = some none)
    (z_set : PySem.W.nsIn K mainGlobals "set" = some none)
    (z_max : PySem.W.nsIn K mainGlobals "max" = some none)
    (z_repr : PySem.W.nsIn K mainGlobals "repr" = some none)
    {fa : Addr} (hfa : mg "law" = some (.ref fa)) :
    ∃ fd : FuncData, (∀ (s : Shared) (u : Value), BindsTo s fd ⟨[u], []⟩ [("_law_script", u)]) ∧ ∀ base : Heap, K.In base → base.Ns mainGlobals mg → FnG (RoomG 12) P w K mg base (L2.CX P w) fa fd ["_law_script"] (sp_lawK K) := by
  have T := all_mk X Ns a_NoWord_init t_NoWord_init l_NoWord_init e_NoWord_init k_NoWord_init a_NoWord_told t_NoWord_told l_NoWord_told e_NoWord_told k_NoWord_told a_Fact_eq i_Fact_eq l_Fact_eq e_Fact_eq k_Fact_eq a_is_number l_is_number e_is_number k_is_number a_is_sequence l_is_sequence e_is_sequence k_is_sequence a_check_form l_check_form e_check_form k_check_form a_check_order l_check_order e_check_order k_check_order a_tree_of l_tree_of e_tree_of k_tree_of a_left_of l_left_of e_left_of k_left_of a_check_products l_check_products e_check_products k_check_products a_Monoid_init i_Monoid_init l_Monoid_init e_Monoid_init k_Monoid_init a_checked l_checked e_checked k_checked a_is_below l_is_below e_is_below k_is_below a_check_rows l_check_rows e_check_rows k_check_rows a_Automaton_init i_Automaton_init l_Automaton_init e_Automaton_init k_Automaton_init a_Automaton_settle i_Automaton_settle l_Automaton_settle e_Automaton_settle k_Automaton_settle a_Automaton_facts i_Automaton_facts l_Automaton_facts e_Automaton_facts k_Automaton_facts a_Language_init i_Language_init l_Language_init e_Language_init k_Language_init a_table_of l_table_of e_table_of k_table_of a_check_word l_check_word e_check_word k_check_word a_accepts l_accepts e_accepts k_accepts a__law_source l__law_source e__law_source k__law_source a__law_draw l__law_draw e__law_draw k__law_draw a__law_pick l__law_pick e__law_pick k__law_pick a__law_moves l__law_moves e__law_moves k__law_moves a__law_plan l__law_plan e__law_plan k__law_plan a__law_all_words l__law_all_words e__law_all_words k__law_all_words a__law_led l__law_led e__law_led k__law_led a__law_has l__law_has e__law_has k__law_has a__law_acts l__law_acts e__law_acts k__law_acts a__law_refused l__law_refused e__law_refused k__law_refused a__law_right l__law_right e__law_right k__law_right a_law l_law e_law k_law ac_Fact pg_Fact hd_Fact po_Fact sa_Fact ac_Monoid pg_Monoid hd_Monoid po_Monoid sa_Monoid mk_Monoid kc_Monoid na_Monoid_right na_Monoid_tree na_Monoid_lefts na_Monoid_memory ac_Automaton pg_Automaton hd_Automaton po_Automaton sa_Automaton mk_Automaton kc_Automaton na_Automaton_rows na_Automaton_start na_Automaton_accepted na_Automaton_memory ac_Language pg_Language hd_Language po_Language sa_Language mk_Language kc_Language na_Language_monoid na_Language_accepted na_Language_memory ac_NoWord x_NoWord rv_NoWord sa_NoWord ga_NoWord gg_NoWord ex_NoWord ty_NoWord hd_NoWord kc_NoWord no_NoWord_word ac_FoldError q_NoWord_NoWord cx_NoWord_NoWord eq_Automaton g1_cls g2_cls g3_Monoid g4_Monoid g3_Automaton g4_Automaton g3_Language g4_Language kt_Automaton_Language kt_Automaton_Automaton kt_Language_Language kt_Monoid_Monoid kt_Automaton_Fact ak_MOST_ELEMENTS rk_MOST_ELEMENTS ak_MOST_LETTERS rk_MOST_LETTERS ak_SIGNS rk_SIGNS ak_MOST_STATES rk_MOST_STATES ak_MOST_MADE rk_MOST_MADE ak_MOST_SIGNS rk_MOST_SIGNS z_len z_int z_abs z_isinstance z_tuple z_range z_enumerate z_str z_list z_bool z_all z_sorted z_set z_max z_repr
  have e := hfa.symm.trans T.g_law
  cases e
  exact ⟨_, fun s v => .of_eq rfl, fun base _ _ => ok_law T⟩
end K67
open PySem PySem.W PyProof.Rows
set_option maxRecDepth 100000 in
set_option maxHeartbeats 0 in
theorem PySem.Challenge.cw_letterfolds_k67_words_that_things_have_holds : PySem.Challenge.rw_letterfolds_k67_words_that_things_have.Holds := by
  w_on; o_law; k_head; (case hw => w_witness2)
  k_fill
  refine LX.walk_ofG (R := LX.RoomG 12) (n := 63) (x := "_law_script") (CX := fun w => L2.CX PySem.Challenge.rw_letterfolds_k67_words_that_things_have.prog w) (sp := fun w => K67.sp_lawK _) rfl (by decide) rfl (LX.roomG_top ⟨rfl, by decide, by decide⟩) (fun w h Y => PySem.W.kIn_of Y) ?F (fun w H a ns h1 h2 h3 => K67.sp_law_start h1 h3) (fun w H s e s' z => K67.cx_none z)
  case F =>
    intro w mg fa h KX Ns hmg
    refine' K67.law_end KX Ns ?a_NoWord_init ?t_NoWord_init ?l_NoWord_init ?e_NoWord_init ?k_NoWord_init ?a_NoWord_told ?t_NoWord_told ?l_NoWord_told ?e_NoWord_told ?k_NoWord_told ?a_Fact_eq ?i_Fact_eq ?l_Fact_eq ?e_Fact_eq ?k_Fact_eq ?a_is_number ?l_is_number ?e_is_number ?k_is_number ?a_is_sequence ?l_is_sequence ?e_is_sequence ?k_is_sequence ?a_check_form ?l_check_form ?e_check_form ?k_check_form ?a_check_order ?l_check_order ?e_check_order ?k_check_order ?a_tree_of ?l_tree_of ?e_tree_of ?k_tree_of ?a_left_of ?l_left_of ?e_left_of ?k_left_of ?a_check_products ?l_check_products ?e_check_products ?k_check_products ?a_Monoid_init ?i_Monoid_init ?l_Monoid_init ?e_Monoid_init ?k_Monoid_init ?a_checked ?l_checked ?e_checked ?k_checked ?a_is_below ?l_is_below ?e_is_below ?k_is_below ?a_check_rows ?l_check_rows ?e_check_rows ?k_check_rows ?a_Automaton_init ?i_Automaton_init ?l_Automaton_init ?e_Automaton_init ?k_Automaton_init ?a_Automaton_settle ?i_Automaton_settle ?l_Automaton_settle ?e_Automaton_settle ?k_Automaton_settle ?a_Automaton_facts ?i_Automaton_facts ?l_Automaton_facts ?e_Automaton_facts ?k_Automaton_facts ?a_Language_init ?i_Language_init ?l_Language_init ?e_Language_init ?k_Language_init ?a_table_of ?l_table_of ?e_table_of ?k_table_of ?a_check_word ?l_check_word ?e_check_word ?k_check_word ?a_accepts ?l_accepts ?e_accepts ?k_accepts ?a__law_source ?l__law_source ?e__law_source ?k__law_source ?a__law_draw ?l__law_draw ?e__law_draw ?k__law_draw ?a__law_pick ?l__law_pick ?e__law_pick ?k__law_pick ?a__law_moves ?l__law_moves ?e__law_moves ?k__law_moves ?a__law_plan ?l__law_plan ?e__law_plan ?k__law_plan ?a__law_all_words ?l__law_all_words ?e__law_all_words ?k__law_all_words ?a__law_led ?l__law_led ?e__law_led ?k__law_led ?a__law_has ?l__law_has ?e__law_has ?k__law_has ?a__law_acts ?l__law_acts ?e__law_acts ?k__law_acts ?a__law_refused ?l__law_refused ?e__law_refused ?k__law_refused ?a__law_right ?l__law_right ?e__law_right ?k__law_right ?a_law ?l_law ?e_law ?k_law ?ac_Fact ?pg_Fact ?hd_Fact ?po_Fact ?sa_Fact ?ac_Monoid ?pg_Monoid ?hd_Monoid ?po_Monoid ?sa_Monoid ?mk_Monoid ?kc_Monoid ?na_Monoid_right ?na_Monoid_tree ?na_Monoid_lefts ?na_Monoid_memory ?ac_Automaton ?pg_Automaton ?hd_Automaton ?po_Automaton ?sa_Automaton ?mk_Automaton ?kc_Automaton ?na_Automaton_rows ?na_Automaton_start ?na_Automaton_accepted ?na_Automaton_memory ?ac_Language ?pg_Language ?hd_Language ?po_Language ?sa_Language ?mk_Language ?kc_Language ?na_Language_monoid ?na_Language_accepted ?na_Language_memory ?ac_NoWord ?x_NoWord ?rv_NoWord ?sa_NoWord ?ga_NoWord ?gg_NoWord ?ex_NoWord ?ty_NoWord ?hd_NoWord ?kc_NoWord ?no_NoWord_word ?ac_FoldError ?q_NoWord_NoWord ?cx_NoWord_NoWord ?eq_Automaton ?g1_cls ?g2_cls ?g3_Monoid ?g4_Monoid ?g3_Automaton ?g4_Automaton ?g3_Language ?g4_Language ?kt_Automaton_Language ?kt_Automaton_Automaton ?kt_Language_Language ?kt_Monoid_Monoid ?kt_Automaton_Fact ?ak_MOST_ELEMENTS ?rk_MOST_ELEMENTS ?ak_MOST_LETTERS ?rk_MOST_LETTERS ?ak_SIGNS ?rk_SIGNS ?ak_MOST_STATES ?rk_MOST_STATES ?ak_MOST_MADE ?rk_MOST_MADE ?ak_MOST_SIGNS ?rk_MOST_SIGNS ?z_len ?z_int ?z_abs ?z_isinstance ?z_tuple ?z_range ?z_enumerate ?z_str ?z_list ?z_bool ?z_all ?z_sorted ?z_set ?z_max ?z_repr hmg
    (case ac_Fact => k_is)
    (case ac_Monoid => k_is)
    (case ac_Automaton => k_is)
    (case ac_Language => k_is)
    (case ac_NoWord => k_is)
    (case ac_FoldError => k_is)
    (case a_NoWord_init => k_is)
    (case t_NoWord_init => k_is)
    (case l_NoWord_init => k_is)
    (case e_NoWord_init => k_is)
    (case k_NoWord_init => k_is)
    (case a_NoWord_told => k_is)
    (case t_NoWord_told => k_is)
    (case l_NoWord_told => k_is)
    (case e_NoWord_told => k_is)
    (case k_NoWord_told => k_is)
    (case a_Fact_eq => k_is)
    (case i_Fact_eq => k_is)
    (case l_Fact_eq => k_is)
    (case e_Fact_eq => k_is)
    (case k_Fact_eq => k_is)
    (case a_is_number => k_is)
    (case l_is_number => k_is)
    (case e_is_number => k_is)
    (case k_is_number => k_is)
    (case a_is_sequence => k_is)
    (case l_is_sequence => k_is)
    (case e_is_sequence => k_is)
    (case k_is_sequence => k_is)
    (case a_check_form => k_is)
    (case l_check_form => k_is)
    (case e_check_form => k_is)
    (case k_check_form => k_is)
    (case a_check_order => k_is)
    (case l_check_order => k_is)
    (case e_check_order => k_is)
    (case k_check_order => k_is)
    (case a_tree_of => k_is)
    (case l_tree_of => k_is)
    (case e_tree_of => k_is)
    (case k_tree_of => k_is)
    (case a_left_of => k_is)
    (case l_left_of => k_is)
    (case e_left_of => k_is)
    (case k_left_of => k_is)
    (case a_check_products => k_is)
    (case l_check_products => k_is)
    (case e_check_products => k_is)
    (case k_check_products => k_is)
    (case a_Monoid_init => k_is)
    (case i_Monoid_init => k_is)
    (case l_Monoid_init => k_is)
    (case e_Monoid_init => k_is)
    (case k_Monoid_init => k_is)
    (case a_checked => k_is)
    (case l_checked => k_is)
    (case e_checked => k_is)
    (case k_checked => k_is)
    (case a_is_below => k_is)
    (case l_is_below => k_is)
    (case e_is_below => k_is)
    (case k_is_below => k_is)
    (case a_check_rows => k_is)
    (case l_check_rows => k_is)
    (case e_check_rows => k_is)
    (case k_check_rows => k_is)
    (case a_Automaton_init => k_is)
    (case i_Automaton_init => k_is)
    (case l_Automaton_init => k_is)
    (case e_Automaton_init => k_is)
    (case k_Automaton_init => k_is)
    (case a_Automaton_settle => k_is)
    (case i_Automaton_settle => k_is)
    (case l_Automaton_settle => k_is)
    (case e_Automaton_settle => k_is)
    (case k_Automaton_settle => k_is)
    (case a_Automaton_facts => k_is)
    (case i_Automaton_facts => k_is)
    (case l_Automaton_facts => k_is)
    (case e_Automaton_facts => k_is)
    (case k_Automaton_facts => k_is)
    (case a_Language_init => k_is)
    (case i_Language_init => k_is)
    (case l_Language_init => k_is)
    (case e_Language_init => k_is)
    (case k_Language_init => k_is)
    (case a_table_of => k_is)
    (case l_table_of => k_is)
    (case e_table_of => k_is)
    (case k_table_of => k_is)
    (case a_check_word => k_is)
    (case l_check_word => k_is)
    (case e_check_word => k_is)
    (case k_check_word => k_is)
    (case a_accepts => k_is)
    (case l_accepts => k_is)
    (case e_accepts => k_is)
    (case k_accepts => k_is)
    (case a__law_source => k_is)
    (case l__law_source => k_is)
    (case e__law_source => k_is)
    (case k__law_source => k_is)
    (case a__law_draw => k_is)
    (case l__law_draw => k_is)
    (case e__law_draw => k_is)
    (case k__law_draw => k_is)
    (case a__law_pick => k_is)
    (case l__law_pick => k_is)
    (case e__law_pick => k_is)
    (case k__law_pick => k_is)
    (case a__law_moves => k_is)
    (case l__law_moves => k_is)
    (case e__law_moves => k_is)
    (case k__law_moves => k_is)
    (case a__law_plan => k_is)
    (case l__law_plan => k_is)
    (case e__law_plan => k_is)
    (case k__law_plan => k_is)
    (case a__law_all_words => k_is)
    (case l__law_all_words => k_is)
    (case e__law_all_words => k_is)
    (case k__law_all_words => k_is)
    (case a__law_led => k_is)
    (case l__law_led => k_is)
    (case e__law_led => k_is)
    (case k__law_led => k_is)
    (case a__law_has => k_is)
    (case l__law_has => k_is)
    (case e__law_has => k_is)
    (case k__law_has => k_is)
    (case a__law_acts => k_is)
    (case l__law_acts => k_is)
    (case e__law_acts => k_is)
    (case k__law_acts => k_is)
    (case a__law_refused => k_is)
    (case l__law_refused => k_is)
    (case e__law_refused => k_is)
    (case k__law_refused => k_is)
    (case a__law_right => k_is)
    (case l__law_right => k_is)
    (case e__law_right => k_is)
    (case k__law_right => k_is)
    (case a_law => k_is)
    (case l_law => k_is)
    (case e_law => k_is)
    (case k_law => k_is)
    (case pg_Fact => k_is)
    (case hd_Fact => k_is)
    (case po_Fact => k_is)
    (case sa_Fact => k_is)
    (case pg_Monoid => k_is)
    (case hd_Monoid => k_is)
    (case po_Monoid => k_is)
    (case sa_Monoid => k_is)
    (case mk_Monoid => k_is)
    (case kc_Monoid => k_is)
    (case na_Monoid_right => k_is)
    (case na_Monoid_tree => k_is)
    (case na_Monoid_lefts => k_is)
    (case na_Monoid_memory => k_is)
    (case pg_Automaton => k_is)
    (case hd_Automaton => k_is)
    (case po_Automaton => k_is)
    (case sa_Automaton => k_is)
    (case mk_Automaton => k_is)
    (case kc_Automaton => k_is)
    (case na_Automaton_rows => k_is)
    (case na_Automaton_start => k_is)
    (case na_Automaton_accepted => k_is)
    (case na_Automaton_memory => k_is)
    (case pg_Language => k_is)
    (case hd_Language => k_is)
    (case po_Language => k_is)
    (case sa_Language => k_is)
    (case mk_Language => k_is)
    (case kc_Language => k_is)
    (case na_Language_monoid => k_is)
    (case na_Language_accepted => k_is)
    (case na_Language_memory => k_is)
    (case x_NoWord => k_is)
    (case rv_NoWord => decide +kernel)
    (case sa_NoWord => k_is)
    (case ga_NoWord => k_is)
    (case gg_NoWord => k_is)
    (case ex_NoWord => k_is)
    (case ty_NoWord => k_is)
    (case hd_NoWord => k_is)
    (case kc_NoWord => k_is)
    (case no_NoWord_word => k_is)
    (case q_NoWord_NoWord => first | rfl | k_is)
    (case cx_NoWord_NoWord => refine ⟨?_, ?_, ?_⟩ <;> k_is)
    (case eq_Automaton => k_is)
    (case g1_cls => k_is)
    (case g2_cls => k_is)
    (case g3_Monoid => k_is)
    (case g4_Monoid => k_is)
    (case g3_Automaton => k_is)
    (case g4_Automaton => k_is)
    (case g3_Language => k_is)
    (case g4_Language => k_is)
    (case kt_Automaton_Language => first | rfl | k_is)
    (case kt_Automaton_Automaton => first | rfl | k_is)
    (case kt_Language_Language => first | rfl | k_is)
    (case kt_Monoid_Monoid => first | rfl | k_is)
    (case kt_Automaton_Fact => first | rfl | k_is)
    (case ak_MOST_ELEMENTS => k_is)
    (case rk_MOST_ELEMENTS => exact ⟨_, rfl⟩)
    (case ak_MOST_LETTERS => k_is)
    (case rk_MOST_LETTERS => exact ⟨_, rfl⟩)
    (case ak_SIGNS => k_is)
    (case rk_SIGNS => exact ⟨_, rfl⟩)
    (case ak_MOST_STATES => k_is)
    (case rk_MOST_STATES => exact ⟨_, rfl⟩)
    (case ak_MOST_MADE => k_is)
    (case rk_MOST_MADE => exact ⟨_, rfl⟩)
    (case ak_MOST_SIGNS => k_is)
    (case rk_MOST_SIGNS => exact ⟨_, rfl⟩)
    (case z_len => k_is)
    (case z_int => k_is)
    (case z_abs => k_is)
    (case z_isinstance => k_is)
    (case z_tuple => k_is)
    (case z_range => k_is)
    (case z_enumerate => k_is)
    (case z_str => k_is)
    (case z_list => k_is)
    (case z_bool => k_is)
    (case z_all => k_is)
    (case z_sorted => k_is)
    (case z_set => k_is)
    (case z_max => k_is)
    (case z_repr => k_is)
