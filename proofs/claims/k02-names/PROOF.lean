import PyProof.Rows.All
import Wide.All
import OpenK.AllK
import Wide.FinOn
import HandS.ForMost
import HandS.Exc
import HandS.ExcInit
import HandS.ExcIs
import HandS.IsInst
import HandS.WordsExc
import HandS.Wide
import KE.KStar
import PyProof.ReprRoads
import HandS.ExcField
import KE.KExcIs
import HandS.Dict
import HandS.EndBits
import HandS.Walk
import HandS.Flow
import HandS.Codes
import HandS.Iter
import HandS.Comp
import PyProof.FitsInt
import HandS.Text
import PySem.Challenge.RW_holeshift_k02_names_told
set_option Elab.async false
set_option linter.all false
set_option maxRecDepth 100000
set_option maxHeartbeats 4000000
/-! G0: calls that know that no repr is running (FnG), exceptions kept behind their except suite, repr. -/
namespace HS
open PySem PySem.Spec PyProof.Rows L2

/-! ### calls -/
/-- room for k calls, and no repr under way -/
structure Rm (k : Nat) (A : Around) : Prop where
  room : Room k A
  gd : A.guards = some []
theorem Rm.mono {j k : Nat} {A : Around} (r : Rm k A) (h : j ≤ k) : Rm j A := ⟨r.room.mono h, r.gd⟩
theorem Rm.deeper {k : Nat} {A : Around} (r : Rm (k + 1) A) (env : Env) : Rm k (A.deeper env) := ⟨r.room.deeper env, r.gd⟩
theorem Rm.make {k : Nat} {A : Around} (r : Rm (k + 1) A) (C : Addr) (us : List Value) (kw : List (Str × Value)) : Rm k (A.under (.builtin "type.__call__" ⟨.ref C :: us, kw⟩)) :=
  ⟨r.room.make C us kw, by simp [Around.under, Code.guards, Code.isGuard, guardIds, pushGuards, r.gd]⟩

/-- what a def keeps: for its bound arguments, under a room k -/
structure FnG (P : Program) (w : World) (K : PySem.W.Frag) (mg : Str → Option Value) (base : Heap) (k : Nat) (f : Addr) (fd : FuncData) (ps : List Str) (sp : Sp) : Prop where
  len : ∀ vs H Q E, sp vs H Q E → vs.length = ps.length
  run : ∀ (A : Around) (outer : List Env) (s : Shared) (H : Hp) (args : Args) (us : List Value) (vs : List V) (Q : VK) (E : XK), Rm k A → Env0 P w K mg base A outer s H →
    BindsTo s fd args (ps.zip us) → Vals vs us → sp vs H Q E → codeAny (model P w) A (.call (.ref f) args) (CR (L2.CX P w) outer P w H s Q E) s
section
variable {P : Program} {w : World} {K : PySem.W.Frag} {mg : Str → Option Value} {base : Heap} {k : Nat} {f : Addr} {fd : FuncData} {ps : List Str} {sp : Sp}
theorem FnG.of (F : FnOk P w K mg base (L2.CX P w) k f fd ps sp) : FnG P w K mg base k f fd ps sp := ⟨F.len, fun A outer s H args us vs Q E hr => F.run A outer s H args us vs Q E hr.room⟩
theorem FnG.mono {j : Nat} (F : FnG P w K mg base j f fd ps sp) (h : j ≤ k) : FnG P w K mg base k f fd ps sp := ⟨F.len, fun A outer s H args us vs Q E hr => F.run A outer s H args us vs Q E (hr.mono h)⟩
theorem FnG.imp {sp' : Sp} (F : FnG P w K mg base k f fd ps sp) (h : ∀ vs H Q E, sp' vs H Q E → sp vs H Q E) : FnG P w K mg base k f fd ps sp' :=
  ⟨fun vs H Q E q => F.len vs H Q E (h _ _ _ _ q), fun A outer s H args us vs Q E hr he hb hv hs => F.run A outer s H args us vs Q E hr he hb hv (h _ _ _ _ hs)⟩
/-- a def by its body -/
theorem fnG {name qual : Str} {params : Arguments} {body : List Stmt} {scope : Scope} {dV kV doc pm cdv ct oc : Value} {an od : Option Addr} {osl : Array (Option Value)} {N : List Str}
    (lk : K.lookup f = some ⟨oc, od, .func (PySem.W.fnOf name qual params body scope dV kV doc pm an cdv ct), osl⟩) (hcd : PySem.W.codeIn K cdv qual = true) (S : FnScope N ps scope) (len : ∀ vs H Q E, sp vs H Q E → vs.length = ps.length)
    (hbody : ∀ (A : Around) (outer : List Env) (s : Shared) (H : Hp) (vs : List V) (Q : VK) (E : XK), Rm k (A.deeper (envOfC qual scope s.heap.objs.size f cdv)) → sp vs H Q E →
      ∃ t, PSs (cxOf (L2.CX P w) P w K mg base N qual scope f cdv A outer s H E) body t ∧ t { nx := fun _ H' => Q .non H', rt := Q } (start N vs) H) :
    FnG P w K mg base (k + 1) f (PySem.W.fnOf name qual params body scope dV kV doc pm an cdv ct) ps sp := by
  constructor
  · exact len
  intro A outer s H args us vs Q E hr e0 hb r hsp
  have keepB : ∀ b o, base.get? b = some o → s.heap.get? b = some o := fun b o e => (e0.bs b o e).1
  have KX : K.In s.heap := e0.mod.kin.keeps keepB
  have hkind : ∀ y ∈ ps.zip us, scope.names.lookup y.1 = some .local ∨ (scope.names.lookup y.1 = some .cell ∧ ((cellsFrom (s.heap.objs.size + 1) scope.names []).lookup y.1).isSome = true) := by
    intro y hy
    have hm : y.1 ∈ ps := (List.of_mem_zip (a := y.1) (b := y.2) hy).1
    rcases S.par y.1 hm with q | q
    · exact .inl q
    · exact .inr ⟨q, PySem.W.cellsFrom_some _ _ _ (.inl q)⟩
  refine codeAny_call_function hr.room.depth (KX _ _ lk) rfl S.co S.gen rfl (PySem.W.codeRec_of KX hcd) (hb _ _ _ _ (wpAny_newFunctionEnv_cells S.kind hkind ?_))
  intro env he s1 x
  subst he
  constructor
  · exact (e0.mod.nolimit.keeps keepB).keeps x.toInCall.keep
  obtain ⟨t, ht, hq⟩ := hbody A outer s H vs Q E (hr.deeper _) hsp
  have I : Inv (cxOf (L2.CX P w) P w K mg base N qual scope f cdv A outer s H E) [] (start N vs) H s1 := inv_start S hr.room.hd e0 (len _ _ _ _ hsp) r x
  refine codeAny_func (wpAny_mono (ht.run [] s1 _ H _ I hq) ?_ fun _ _ z => z)
  intro fl s' hs
  cases fl with
  | ret u =>
    obtain ⟨v, _, H', J, rv, q⟩ := hs
    exact ⟨v, H', J.os, J.bare, J.base, J.hok, rv, q⟩
  | next =>
    obtain ⟨_, H', J, q⟩ := hs
    exact ⟨.non, H', J.os, J.bare, J.base, J.hok, rfl, q⟩
  | brk => exact hs.elim fun _ z => z.elim fun _ z => z.2.elim
  | cont => exact hs.elim fun _ z => z.elim fun _ z => z.2.elim
/-- .. of the text as it stands behind the top -/
theorem Fun.okG {x qual : Str} {st : Stmt} {N : List Str} (F : Fun K x qual st f fd) (S : FnScope N ps (defScope st)) (len : ∀ vs H Q E, sp vs H Q E → vs.length = ps.length)
    (hbody : ∀ (cdv : Value) (A : Around) (outer : List Env) (s : Shared) (H : Hp) (vs : List V) (Q : VK) (E : XK), Rm k (A.deeper (envOfC qual (defScope st) s.heap.objs.size f cdv)) → sp vs H Q E →
      ∃ t, PSs (cxOf (L2.CX P w) P w K mg base N qual (defScope st) f cdv A outer s H E) (defBody st) t ∧ t { nx := fun _ H' => Q .non H', rt := Q } (start N vs) H) :
    FnG P w K mg base (k + 1) f fd ps sp := by
  obtain ⟨oc, od, kV, doc, pm, an, cdv, ct, osl, rfl, lk, hcd⟩ := F.ex
  exact fnG lk hcd S len fun A outer s H vs Q E => hbody cdv A outer s H vs Q E
end
/-- no exception is wished for -/
def noW : WX := fun _ _ _ _ => False
theorem takesF {X : Cx} : Takes X noW := fun u s' x => by
  obtain ⟨a, B, sI, pins, σ, H, cls, d, _, _, _, _, _, _, _, _, z⟩ := x
  exact z.elim
/-- no exception is wished for: none comes -/
theorem passE0 {X : Cx} : Passes (L2.CX X.prog X.w) X (fun _ _ _ => False) := by
  intro pins σ H s e s' I h
  obtain ⟨a, B, H', cls, d, _, _, _, _, _, _, _, h⟩ := h
  exact h.elim
section
variable {X : Cx} {pins : List (Addr × Obj)} {σ : L2.St} {H : Hp} {s s' : Shared} {W : WX} {Q : VK} {k : Nat} {f : Addr} {fd : FuncData} {ps ks : List Str} {sp : Sp}
/-- what is wished of an exception, at these slots -/
abbrev atW (W : WX) (σ : L2.St) : XK := fun cls d H' => W cls d σ H'
/-- what a call leaves is a state of ours, or an exception that is taken -/
theorem back_ok {r : Result} (tk : Takes X W) (I : Inv X pins σ H s) (hq : CR (L2.CX X.prog X.w) X.stack X.prog X.w H s Q (atW W σ) r s') :
    (match r with | .ok (.ret u) => EP X pins σ Q u s' | .ok _ => False | .error e => X.xe e s') := by
  cases r with
  | error e => exact tk e s' (XE.of_call I (fun _ _ _ h => h) hq)
  | ok fl => cases fl with
    | ret u => exact I.after hq
    | next => exact hq
    | brk => exact hq
    | cont => exact hq
/-- the callee runs; gs: all its parameters' values -/
theorem runG {us gs : List Value} {kw : List (Str × Value)} {vs : List V} (F : FnG X.prog X.w X.K X.mg X.base k f fd ps sp) (hr : Rm k X.A) (tk : Takes X W)
    (I : Inv X pins σ H s) (hb : BindsTo s fd ⟨us, kw⟩ (ps.zip gs)) (r : Vals vs gs) (h : sp vs H Q (atW W σ)) : wpAny (model X.prog X.w) X.A (call (.ref f) us kw) (EP X pins σ Q) X.xe s := by
  refine wpAny_call (codeAny_mono (F.run X.A X.stack s H ⟨us, kw⟩ gs vs Q _ hr I.env0 hb r h) fun r s' hq => ?_)
  have z := back_ok tk I hq
  cases r with
  | error e => exact z
  | ok fl => cases fl <;> exact z
variable {e : Expr} {es : List Expr} {kws : List Keyword} {t ta : TA} {ds : List Value} {dvs : List V} {x : Str} {p pos : Pos}
/-- f(..): the written arguments, then the defaults -/
def tG (sp : Sp) (dvs : List V) (W : WX) (t : TA) : TE := fun σ H Q => t σ H fun vs H1 => sp (vs ++ dvs) H1 Q (atW W σ)
/-- f(e, ..): all positional; dvs the defaults that fill up -/
theorem pc_G (F : FnG X.prog X.w X.K X.mg X.base k f fd ps sp) (hr : Rm k X.A) (tk : Takes X W) (hm : X.mg x = some (.ref f)) (hk : PySem.W.keepIn X.K (.ref f) = true) (hb : Binds X.K fd ps ds) (hd : Vals dvs ds)
    (ha : PA X (e :: es) t) (hg : Gl X x := by rfl) (hdb : (x == ("__debug__" : Str)) = false := by decide)
    (he : starEach (e :: es) X.env = (false, eval e X.env) :: starEach es X.env := by rfl) (hpl : (backTo pos (starEach es X.env)).any (·.1) = false := by rfl) :
    PE X (.Call (.Name x p) (e :: es) [] pos) (tG sp dvs W t) := by
  constructor
  intro pins s σ H Q I h
  refine wpAny_Call_Name_kw (ld_glob I hg hm (PySem.W.callWith_K (h₀ := X.base) I.ok.mod.kin hk (thn (ha.run pos pins s σ H _ I h) ?_) he hpl) hdb)
  rintro us s1 ⟨vs, H1, I1, r, q⟩
  have r2 := r.append hd
  have hl : (us ++ ds).length = ps.length := by rw [← r2.length]; exact F.len _ _ _ _ q
  exact ⟨I1.kIn, runG F hr tk I1 (hb s1 us I1.kIn hl) r2 q⟩
theorem pc_G0 (F : FnG X.prog X.w X.K X.mg X.base k f fd ps sp) (hr : Rm k X.A) (tk : Takes X W) (hm : X.mg x = some (.ref f)) (hk : PySem.W.keepIn X.K (.ref f) = true) (hb : Binds X.K fd ps ds) (hd : Vals dvs ds)
    (hg : Gl X x := by rfl) (hdb : (x == ("__debug__" : Str)) = false := by decide) : PE X (.Call (.Name x p) [] [] pos) (tG sp dvs W tNil) := by
  constructor
  intro pins s σ H Q I h
  have hl : ([] ++ ds).length = ps.length := by rw [List.nil_append, ← hd.length]; exact F.len _ _ _ _ h
  exact wpAny_Call_Name_kw (ld_glob I hg hm (PySem.W.callWith_K0 I.kIn hk (runG (us := []) (gs := ds) F hr tk I (hb s [] I.kIn hl) hd h)) hdb)
/-- how a call binds: n positional values, keywords named ks; g puts all parameters in order -/
structure Bnd (K : PySem.W.Frag) (fd : FuncData) (ps : List Str) (n : Nat) (ks : List Str) (g : List Value → List Value → List Value) (gV : List V → List V → List V) : Prop where
  to : ∀ (s : Shared) (us ws : List Value), K.In s.heap → us.length = n → ws.length = ks.length → BindsTo s fd ⟨us, ks.zip ws⟩ (ps.zip (g us ws))
  rel : ∀ {vs : List V} {us : List Value} {zs : List V} {ws : List Value}, vs.length = n → zs.length = ks.length → Vals vs us → Vals zs ws → Vals (gV vs zs) (g us ws)
def tGW (n m : Nat) (sp : Sp) (gV : List V → List V → List V) (W : WX) (t tk : TA) : TE := fun σ H Q => t σ H fun vs H1 => tk σ H1 fun zs H2 => vs.length = n ∧ zs.length = m ∧ sp (gV vs zs) H2 Q (atW W σ)
variable {n : Nat} {g : List Value → List Value → List Value} {gV : List V → List V → List V}
/-- f(e, .., k = v, ..) -/
theorem pc_GW (F : FnG X.prog X.w X.K X.mg X.base k f fd ps sp) (hr : Rm k X.A) (tk : Takes X W) (hm : X.mg x = some (.ref f)) (hk : PySem.W.keepIn X.K (.ref f) = true) (hb : Bnd X.K fd ps n ks g gV)
    (ha : PA X (e :: es) t) (hkw : PK X kws ta) (hg : Gl X x := by rfl) (hall : (backToKw pos (keywordEach kws X.env)).all (·.1.isSome) = true := by rfl) (hks : (backToKw pos (keywordEach kws X.env)).filterMap (·.1) = ks := by rfl)
    (hdb : (x == ("__debug__" : Str)) = false := by decide) (he : starEach (e :: es) X.env = (false, eval e X.env) :: starEach es X.env := by rfl)
    (hpl : ((backTo pos (starEach (e :: es) X.env)).any (·.1) || (backToKw pos (keywordEach kws X.env)).any (·.1.isNone)) = false := by rfl) :
    PE X (.Call (.Name x p) (e :: es) kws pos) (tGW n ks.length sp gV W t ta) := by
  constructor
  intro pins s σ H Q I h
  refine wpAny_Call_Name_kw (ld_glob I hg hm (PySem.W.callWith_KW (h₀ := X.base) I.ok.mod.kin hk hall (thn (ha.run pos pins s σ H _ I h) ?_) hpl he) hdb)
  rintro us s1 ⟨vs, H1, I1, r, q⟩
  refine thn (hkw.run pos pins s1 σ H1 _ I1 q) ?_
  rintro ws s2 ⟨zs, H2, I2, rz, l1, l2, q2⟩
  rw [hks]
  exact ⟨I2.kIn, runG F hr tk I2 (hb.to s2 us ws I2.kIn (r.length.symm.trans l1) (rz.length.symm.trans l2)) (hb.rel l1 l2 r rz) q2⟩
/-- f(k = v, ..) -/
theorem pc_GW0 (F : FnG X.prog X.w X.K X.mg X.base k f fd ps sp) (hr : Rm k X.A) (tk : Takes X W) (hm : X.mg x = some (.ref f)) (hk : PySem.W.keepIn X.K (.ref f) = true) (hb : Bnd X.K fd ps 0 ks g gV)
    (hkw : PK X kws ta) (hg : Gl X x := by rfl) (hall : (backToKw pos (keywordEach kws X.env)).all (·.1.isSome) = true := by rfl) (hks : (backToKw pos (keywordEach kws X.env)).filterMap (·.1) = ks := by rfl)
    (hdb : (x == ("__debug__" : Str)) = false := by decide)
    (hpl : ((backTo pos (starEach [] X.env)).any (·.1) || (backToKw pos (keywordEach kws X.env)).any (·.1.isNone)) = false := by rfl) :
    PE X (.Call (.Name x p) [] kws pos) (tGW 0 ks.length sp gV W tNil ta) := by
  constructor
  intro pins s σ H Q I h
  refine wpAny_Call_Name_kw (ld_glob I hg hm (PySem.W.callWith_KW0 (h₀ := X.base) I.ok.mod.kin hk hall (thn (hkw.run pos pins s σ H _ I h) ?_) hpl) hdb)
  rintro ws s2 ⟨zs, H2, I2, rz, l1, l2, q2⟩
  rw [hks]
  exact ⟨I2.kIn, runG F hr tk I2 (hb.to s2 [] ws I2.kIn rfl (rz.length.symm.trans l2)) (hb.rel l1 l2 .nil rz) q2⟩
end
end HS

/-! G1: an exception that is kept behind its except suite. -/
namespace HS
open PySem PySem.Spec PyProof.Rows L2
section
variable {X : Cx} {pins : List (Addr × Obj)} {σ : L2.St} {H : Hp} {s s' : Shared}
/-- an object that stood there, made since the entry, is tracked from now on -/
theorem adopt (I : Inv X pins σ H s) {a : Addr} {o : HO} {ob : Obj} {vs : Array Value} (h0 : X.s_0.heap.get? a = none) (hs : s.heap.get? a = some ob) (hd : ob.data = .fields vs) (na : H a = none) (nL : a ≠ X.env.locals) (nF : a ∉ X.fs)
    (np : ∀ p ∈ X.pn ++ pins, p.1 ≠ a) (new : ObjOk X.prog X.w (upd H a o) s.heap a o) : Inv X pins σ (upd H a o) s := by
  have off : ∀ {b : Addr} {u : HO}, H b = some u → b ≠ a := fun {b u} e z => by rw [z, na] at e; cases e
  have off0 : ∀ {b : Addr} {u : Obj}, X.s_0.heap.get? b = some u → b ≠ a := fun {b u} e z => by rw [z, h0] at e; cases e
  have offc : ∀ x c, X.env.cells.lookup x = some c → c ≠ a := fun x c e z => by
    obtain ⟨v, o', e1, e2⟩ := I.cell x c e
    rw [z, hs] at e1
    cases e1
    rw [hd] at e2
    cases e2
  refine ⟨I.ok, I.os, I.bare, ?base, I.loc, I.cell, ?free, ?freeC, ?pin, ?hok, I.len⟩
  case base => exact
    { keep := I.base.keep
      slot := I.base.slot
      there := I.base.there
      free := fun b u e n hx => by rw [upd_ne (off0 e)]; exact I.base.free b u e n hx
      tups := fun b xs e => by have q := I.base.tups b xs e; rw [upd_ne (off q)]; exact q
      frzs := fun b u v e => by have q := I.base.frzs b u v e; rw [upd_ne (off q)]; exact q
      tbls := fun b ps e => by obtain ⟨m, q⟩ := I.base.tbls b ps e; exact ⟨m, by rw [upd_ne (off q)]; exact q⟩ }
  case free => rw [upd_ne (Ne.symm nL)]; exact I.free
  case freeC => intro x c e; rw [upd_ne (offc x c e)]; exact I.freeC x c e
  case pin =>
    intro p hp
    obtain ⟨q1, q2, q3⟩ := I.pin p hp
    exact ⟨q1, by rw [upd_ne (np p hp)]; exact q2, q3⟩
  case hok =>
    intro b u e
    by_cases hb : b = a
    · subst hb
      rw [upd_same] at e
      cases e
      exact new
    · rw [upd_ne hb] at e
      exact (I.hok b u e).stay (fun c v _ q => q) (fun c q => by rw [upd_ne (off q)]; exact q) fun c xs q => by rw [upd_ne (off q)]; exact q

/-- at a: an exception of the class cls, its own dict at d -/
def ExV (a : Addr) (cls : Value) (d : Option Addr) : HO := .ext fun h => ∃ oe vs, h.get? a = some oe ∧ oe.cls = cls ∧ oe.dict = d ∧ oe.data = .fields vs
theorem exv_ok {P : Program} {w : World} {H : Hp} {h : Heap} {a : Addr} {cls : Value} {d : Option Addr} {oe : Obj} {vs : Array Value} (e : h.get? a = some oe) (z : Zc cls d oe) (hd : oe.data = .fields vs) : ObjOk P w H h a (ExV a cls d) :=
  ⟨⟨oe, vs, e, z.1, z.2, hd⟩, ⟨oe, e⟩, fun h1 h2 x k => by
    obtain ⟨o, v, e, r⟩ := x
    exact ⟨o, v, k _ e, r⟩⟩
theorem exv_at {P : Program} {w : World} {H : Hp} {h : Heap} {a : Addr} {cls : Value} {d : Option Addr} (hok : HOk P w H h) (e : H a = some (ExV a cls d)) : ∃ oe vs, h.get? a = some oe ∧ oe.cls = cls ∧ oe.dict = d ∧ oe.data = .fields vs := by
  have x : ObjOk P w H h a (.ext fun h => ∃ oe vs, h.get? a = some oe ∧ oe.cls = cls ∧ oe.dict = d ∧ oe.data = .fields vs) := hok a _ e
  exact x.1

/-- what 'except x as n' wishes, the exception tracked in its suite and behind -/
def wKp (K : PySem.W.Frag) (c : Value) (i : Nat) (ts : Addr → TS) (Wout : WX) (D : Ends) : WX := fun cls d σ H =>
  ∃ b, PySem.W.exmOne K cls c = some b ∧
    (b = true → ∀ a, H a = none → ts a { nx := fun σ' H' => D.nx (σ'.set i none) H', rt := D.rt, bk := fun σ' H' => D.bk (σ'.set i none) H', ct := fun σ' H' => D.ct (σ'.set i none) H' } (σ.set i (some (.ref a))) (upd H a (ExV a cls d))) ∧
    (b = false → Wout cls d σ H)
variable {x n : Str} {c : Value} {i : Nat} {body suite : List Stmt} {b₀ : Stmt} {np pos pos' : Pos} {tb : WX → TS} {ts : Addr → TS} {Wout : WX}
theorem ps_try_kp (hs : X.stack = X.env :: X.outer) (hf : X.env.frame = some X.env.locals) (hex : X.ex = []) (hN : X.N.Nodup) (hi : X.N[i]? = some n) (hln : X.env.kindOf n = some .local) (hc : Names X x c) (tk : Takes X Wout)
    (hb : ∀ (W : WX) (pn : List (Addr × Obj)) (xe : Value → Shared → Prop), Takes (X.tr pn xe) W → PassesOwn (model X.prog X.w) X.A X.env xe → PSs (X.tr pn xe) body (tb W))
    (hsu : ∀ (a : Addr) (pn : List (Addr × Obj)), PSs (X.suite a pn) (b₀ :: suite) (ts a)) :
    PS X (.Try body [.ExceptHandler (some (.Name x np)) (some n) (b₀ :: suite) pos'] [] [] pos) (fun D σ H => tb (wKp X.K c i ts Wout D) D σ H) := by
  constructor
  intro pins s σ H D I h
  have ok := I.ok
  have hfr : X.A.frames = some (X.env :: X.outer) := by rw [ok.frames, hs]
  let xe : Value → Shared → Prop := fun e s₁ => wpAny (model X.prog X.w) X.A (noteFrame e X.env) (fun _ s₂ => wpAny (model X.prog X.w) X.A (setFlight e none) (fun _ s₃ =>
    wpAny (model X.prog X.w) X.A (handleBy e X.env [.ExceptHandler (some (.Name x np)) (some n) (b₀ :: suite) pos']) (SP X pins D) X.xe s₃) X.xe s₂) X.xe s₁
  refine wpAny_Try_except (wpAny_mono ((hb (wKp X.K c i ts Wout D) (X.pn ++ pins) xe ?caught PassesOwn.looking).run [] s σ H D (I.toTry _) h) ?through fun e s1 he => he)
  case through =>
    intro f s1 hsp
    cases f with
    | next => obtain ⟨σ', H', J, q⟩ := hsp; exact wpAny_execs_nil ⟨σ', H', J.ofTry ok, q⟩
    | brk => obtain ⟨σ', H', J, q⟩ := hsp; exact ⟨σ', H', J.ofTry ok, q⟩
    | cont => obtain ⟨σ', H', J, q⟩ := hsp; exact ⟨σ', H', J.ofTry ok, q⟩
    | ret u => obtain ⟨v, σ', H', J, r, q⟩ := hsp; exact ⟨v, σ', H', J.ofTry ok, r, q⟩
  case caught =>
    intro u s' xx
    obtain ⟨a, B, sI, pins', σ', H', cls, d, rfl, J', nb, up, sky, na, os, ag, b, hb1, hyes, hno⟩ := xx
    have J : Inv X pins σ' H' sI := J'.ofTry ok
    rw [show (X.tr (X.pn ++ pins) xe).stack = X.env :: X.outer from hs] at sky
    show wpAny (model X.prog X.w) X.A (noteFrame (.ref a) X.env) _ _ _
    refine Sky.land Zc.steady hfr hf sky fun h3 fl3 up3 => ?_
    have J3 : Inv X pins σ' H' { s' with heap := h3 } := J.landed nb fl3.1 (up.trans up3) os ag
    obtain ⟨oe3, vs3, he3, hz3, hd3⟩ := fl3.there
    have nfr : a ∉ frs (X.env :: X.outer) := fun hm => by
      obtain ⟨_, o', e', hnf⟩ := fl3.2.2.1.mem hm
      rw [he3] at e'
      cases e'
      exact hnf _ hd3
    have nL : a ≠ X.env.locals := fun z => nfr (List.mem_filterMap.mpr ⟨X.env, List.mem_cons_self, by rw [hf, z]⟩)
    have nF : a ∉ X.fs := fun hm => by
      obtain ⟨e, he, q⟩ := List.mem_filterMap.mp hm
      exact nfr (List.mem_filterMap.mpr ⟨e, List.mem_cons_of_mem _ he, q⟩)
    -- the exception was made behind the entry
    have hBa : B.get? a = none := fl3.2.1
    have h0 : X.s_0.heap.get? a = none := by
      cases e : X.s_0.heap.get? a with
      | none => rfl
      | some o =>
        obtain ⟨o', e'⟩ := J.base.there a o e (by rw [hex]; simp)
        have q := nb a o' e' (by rw [show (X.tr (X.pn ++ pins) xe).stack = X.env :: X.outer from hs]; exact nfr)
        rw [hBa] at q
        cases q
    have hIa : sI.heap.get? a = none := by
      cases e : sI.heap.get? a with
      | none => rfl
      | some o' =>
        have q := nb a o' e (by rw [show (X.tr (X.pn ++ pins) xe).stack = X.env :: X.outer from hs]; exact nfr)
        rw [hBa] at q
        cases q
    have npin : ∀ p ∈ X.pn ++ pins, p.1 ≠ a := fun p hp z => by
      obtain ⟨q, _⟩ := J.pin p hp
      rw [z, hIa] at q
      cases q
    have S3 := J3.suite he3 hd3 na nL nF
    refine wpAny_handleBy_cons (codeAny_handlers_test ?_) (by intro q; cases q)
    have LT : PySem.W.Looks (model X.prog X.w) h3 (typeOf (.ref a)) cls := fun A Q E s k q => wpAny_typeOf_ref (k _ _ he3) (by rw [hz3.1]; exact q)
    have LM := PySem.W.exm_one (M := model X.prog X.w) (J3.kIn) LT hb1
    have test : ∀ {Q : Value → Shared → Prop} {E : Value → Shared → Prop}, Q c { s' with heap := h3 } → wpAny (model X.prog X.w) (X.A.mark (some (.ref a))) (eval (.Name x np) X.env) Q E { s' with heap := h3 } := by
      intro Q E q
      obtain ⟨hg, hdbg, hm | ⟨hm, hv, hnn⟩⟩ := hc
      · exact ld_glob (X := X.suite a ((a, oe3) :: (X.pn ++ pins))) S3 hg hm q hdbg
      · exact ld_blt (X := X.suite a ((a, oe3) :: (X.pn ++ pins))) S3 hg hm hv q hnn hdbg
    refine test (LM.here ?_)
    cases b with
    | true =>
      refine codeAny_handlers_suite_as (HandSPX.lands_againZ fl3 fun h4 fl4 up4 => ?_)
      have J4 : Inv X pins σ' H' { s' with heap := h4 } := J.landed nb fl4.1 ((up.trans up3).trans up4) os ag
      obtain ⟨oe4, vs4, he4, hz4, hd4⟩ := fl4.there
      have K4 : Inv X pins σ' (upd H' a (ExV a cls d)) { s' with heap := h4 } := adopt J4 h0 he4 hd4 na nL nF npin (exv_ok he4 hz4 hd4)
      have S4 : Inv (X.suite a (X.pn ++ pins)) [] σ' (upd H' a (ExV a cls d)) { s' with heap := h4 } :=
        ⟨K4.ok.suite _ _, K4.os, K4.bare, K4.base, K4.loc, K4.cell, K4.free, K4.freeC, fun p hp => K4.pin p (by rw [List.append_nil] at hp; exact hp), K4.hok, K4.len⟩
      refine store_ok (X := X.suite a (X.pn ++ pins)) (v := .ref a) S4 hN hi (.inl hln) rfl (fun s5 S5 => ?_) (.inr hln)
      refine wpAny_mono ((hsu a (X.pn ++ pins)).run [] s5 _ _ _ S5 (hyes rfl a na)) ?_ (fun _ _ z => False.elim z)
      have end_ : ∀ {σ6 : L2.St} {H6 : Hp} {s6 : Shared} {Q : Shared → Prop}, Inv (X.suite a (X.pn ++ pins)) [] σ6 H6 s6 → (∀ s7, Inv X pins (σ6.set i none) H6 s7 → Q s7) →
          wpAny (model X.prog X.w) X.A (do bindName X.env n .none; unbindBehindTheSuite X.env n pos') (fun _ s7 => Q s7) X.xe s6 := by
        intro σ6 H6 s6 Q S6 hq
        have J6 : Inv X pins σ6 H6 s6 := ⟨ok, S6.os, S6.bare, S6.base, S6.loc, S6.cell, S6.free, S6.freeC, fun p hp => S6.pin p (List.mem_append_left _ hp), S6.hok, S6.len⟩
        exact gone_ok J6 hN hi hln hq
      intro f s6 hsp
      cases f with
      | next => obtain ⟨σ6, H6, S6, q6⟩ := hsp; exact end_ S6 fun s7 J7 => ⟨_, _, J7, q6⟩
      | brk => obtain ⟨σ6, H6, S6, q6⟩ := hsp; exact end_ S6 fun s7 J7 => ⟨_, _, J7, q6⟩
      | cont => obtain ⟨σ6, H6, S6, q6⟩ := hsp; exact end_ S6 fun s7 J7 => ⟨_, _, J7, q6⟩
      | ret u => obtain ⟨v6, σ6, H6, S6, r6, q6⟩ := hsp; exact end_ S6 fun s7 J7 => ⟨_, _, _, J7, r6, q6⟩
    | false =>
      show wpAny _ X.A (handleBy (.ref a) X.env []) _ _ _
      refine wpAny_handleBy_nil ?_
      obtain ⟨k1, k2, k3, oe, vs, T, oT, ts', he, hz, hd, h1, hr⟩ := id fl3
      unfold PySem.passOn
      refine wpAny_bind (wpAny_field he hd h1 ?_)
      rw [if_neg (show ¬ ((Value.ref T == Value.none) = true) from by simp)]
      have fin : wpAny (model X.prog X.w) X.A (setFlight (.ref a) X.env.frame) (fun _ s4 => wpAny (model X.prog X.w) X.A (throw (.ref a) : Sem Flow) (SP X pins D) X.xe s4) X.xe { s' with heap := h3 } := by
        rw [hf]
        refine HandSPX.setFlight_upZ fl3 fun h4 hh4 up4 => wpAny_throw (tk _ _ ?_)
        exact ⟨a, B, sI, pins, σ', H', cls, d, rfl, J, nb, (up.trans up3).trans up4, .inr (.inr (by rw [hs]; exact hh4)), na, os, ag, hno rfl⟩
      first
        | exact wpAny_bind (wpAny_pure (wpAny_bind fin))
        | exact wpAny_bind fin

/-! ### a kept exception is asked -/
/-- e.f -/
def tXv (K : PySem.W.Frag) (f : Str) (te : TE) : TE := fun σ H Q => te σ H fun x H1 => ∃ (a C dd : Addr) (fs : List (Str × V)) (v : V), x = .ref a ∧ H1 a = some (ExV a (.ref C) (some dd)) ∧ H1 dd = some (.xd fs) ∧ fs.lookup f = some v ∧ XfC K C ∧
  PySem.W.findIn K (.ref C) f = some none ∧ Q v H1
theorem pe_xv {e : Expr} {te : TE} {f : Str} {pos : Pos} (he : PE X e te) (hb : attributeBase e f X.env (eval e X.env) = eval e X.env := by rfl) : PE X (.Attribute e f pos) (tXv X.K f te) := by
  constructor
  intro pins s σ H Q I h
  refine attr_of hb (thn (he.run pins s σ H _ I h) ?_)
  rintro u s1 ⟨x, H1, I1, rx, a, C, dd, fs, v, rfl, ea, ed, l, T, hno, q⟩
  obtain rfl : u = Value.ref a := rx
  obtain ⟨oe, vs, h1, h2, h3, h4⟩ := exv_at I1.hok ea
  obtain ⟨mA, hns, hr⟩ : ObjOk X.prog X.w H1 s1.heap dd (.xd fs) := I1.hok dd _ ed
  obtain ⟨od, ho, hl⟩ := lookIn_ns hns
  obtain ⟨u, hu, ru⟩ := RelO.some_of (v := v) (o := mA f) (by rw [← l]; exact hr f)
  have J : PySem.W.InstAt s1.heap a oe C (some od) := ⟨h1, h2, by unfold PySem.W.notCls; rw [h4] <;> rfl, by rw [h3]; exact ho⟩
  exact HandSPX.exc_get I1.kIn J T.ga T.gg T.exC (PySem.W.findObj_own T.hdC hno rfl (by rw [hl, hu])) (handed_of ru) ⟨v, H1, I1.tok _, ru, q⟩
end
end HS

/-! G2: data of any depth with dicts (Rd), repr of it, isinstance with kept exceptions. -/
namespace HS
open PySem PySem.Spec PyProof.Rows L2

/-! ### data -/
def kD : Key → PyData
  | .inl i => .int i
  | .inr x => .str x
mutual
inductive Rd (K : PySem.W.Frag) (H : Hp) : V → PyData → Prop
  | non : Rd K H .non .none
  | bl (b : Bool) : Rd K H (.bl b) (.bool b)
  | int (i : Int) : Rd K H (.int i) (.int i)
  | str (x : Str) : Rd K H (.str x) (.str x)
  | lst {a : Addr} {xs : List V} {ds : List PyData} : SqL K H a xs → a ≠ sysModules → RdA K H xs ds → Rd K H (.ref a) (.list ds)
  | tup {a : Addr} {xs : List V} {ds : List PyData} : SqT K H a xs → RdA K H xs ds → Rd K H (.ref a) (.tuple ds)
  | dct {a : Addr} {ks : List Key} {vs : List V} {ds : List PyData} : H a = some (.dK (ks.zip vs)) → ks.length = vs.length → RdA K H vs ds → Rd K H (.ref a) (.dict ((ks.map kD).zip ds))
inductive RdA (K : PySem.W.Frag) (H : Hp) : List V → List PyData → Prop
  | nil : RdA K H [] []
  | cons {v : V} {vs : List V} {d : PyData} {ds : List PyData} : Rd K H v d → RdA K H vs ds → RdA K H (v :: vs) (d :: ds)
end
theorem RdA.length {K : PySem.W.Frag} {H : Hp} : ∀ {vs : List V} {ds : List PyData}, RdA K H vs ds → vs.length = ds.length
  | _, _, .nil => rfl
  | _, _, .cons _ t => congrArg Nat.succ t.length
section
variable {K : PySem.W.Frag} {H H' : Hp}
theorem Same.tup (e : Same H H') {a : Addr} {xs : List V} (h : SqT K H a xs) : SqT K H' a xs := by
  rcases h with (h | ⟨o, h⟩) | h
  · exact .inl (.inl (e _ _ h))
  · exact .inl (.inr ⟨o, e _ _ h⟩)
  · exact .inr h
mutual
theorem Rd.same (e : Same H H') : ∀ {v : V} {d : PyData}, Rd K H v d → Rd K H' v d
  | _, _, .non => .non
  | _, _, .bl b => .bl b
  | _, _, .int i => .int i
  | _, _, .str x => .str x
  | _, _, .lst h n t => .lst (L2.Same.seq e h) n (RdA.same e t)
  | _, _, .tup h t => .tup (Same.tup e h) (RdA.same e t)
  | _, _, .dct h l t => .dct (e _ _ h) l (RdA.same e t)
theorem RdA.same (e : Same H H') : ∀ {vs : List V} {ds : List PyData}, RdA K H vs ds → RdA K H' vs ds
  | _, _, .nil => .nil
  | _, _, .cons h t => .cons (Rd.same e h) (RdA.same e t)
end
end
theorem keyIs_reads {h : Heap} : ∀ {k : Key} {v : Value}, keyIs k v = true → Reads h v (kD k) []
  | .inl i, v, e => by
    rcases keyIs_shape e with ⟨j, t, e1, rfl⟩ | ⟨x, t, e1, _⟩
    · cases e1
      exact .int i t
    · cases e1
  | .inr x, v, e => by
    rcases keyIs_shape e with ⟨j, t, e1, _⟩ | ⟨y, t, e1, rfl⟩
    · cases e1
    · cases e1
      exact .str x t
theorem keys_reads {P : Program} {w : World} {h : Heap} : ∀ {es : List DictEntry} {kvs : List (Key × Value)}, Pairs (mixKind P w) es kvs → ReadsAll h (es.map (·.key)) (kvs.map fun p => kD p.1) [] ∧ es.map (·.val) = kvs.map (·.2)
  | _, _, .nil => ⟨.nil, rfl⟩
  | _, _, .cons h1 h2 t => by
    obtain ⟨q1, q2⟩ := keys_reads (h := h) t
    refine ⟨?_, ?_⟩
    · exact .cons (as := []) (bs := []) (keyIs_reads h1) q1
    · simp [h2, q2]
theorem kv_split : ∀ {ks : List Key} {vs : List V} {ps : List (Key × Value)}, ks.length = vs.length → KV (ks.zip vs) ps → ps.map (fun p => kD p.1) = ks.map kD ∧ Vals vs (ps.map (·.2))
  | [], [], _, _, h => by
    cases h
    exact ⟨rfl, .nil⟩
  | k :: ks, v :: vs, _, l, h => by
    cases h with
    | cons h1 t =>
      obtain ⟨q1, q2⟩ := kv_split (ks := ks) (vs := vs) (by simpa using l) t
      refine ⟨?_, .cons h1.2 q2⟩
      simp only [List.map_cons, q1, ← h1.1]
  | [], _ :: _, _, l, _ => by cases l
  | _ :: _, [], _, l, _ => by cases l
section
variable {X : Cx} {pins : List (Addr × Obj)} {σ : L2.St} {H : Hp} {s : Shared}
mutual
theorem Rd.reads (I : Inv X pins σ H s) : ∀ {v : V} {d : PyData}, Rd X.K H v d → ∀ u : Value, RelV v u → ∃ as, Reads s.heap u d as ∧ sysModules ∉ as
  | _, _, .non, u, r => by
    cases r
    exact ⟨_, Reads.none, by simp⟩
  | _, _, .bl b, u, r => by
    cases r
    exact ⟨_, Reads.bool b, by simp⟩
  | _, _, .int i, u, r => by
    obtain ⟨t, rfl⟩ := r
    exact ⟨_, Reads.int i t, by simp⟩
  | _, _, .str x, u, r => by
    obtain ⟨t, rfl⟩ := r
    exact ⟨_, Reads.str x t, by simp⟩
  | _, _, .lst hs hn ha, u, r => by
    cases r
    obtain ⟨its, rv, ⟨o, n, ho, hc, _, hd⟩, _⟩ := I.list hs
    obtain ⟨as, hr, hm⟩ := Rd.readsAll I ha its rv
    refine ⟨_, Reads.list ho hc hd hr, fun z => ?_⟩
    rcases List.mem_cons.mp z with z | z
    · exact hn z.symm
    · exact hm z
  | _, _, .tup hs ha, u, r => by
    cases r
    obtain ⟨its, rv, ⟨o, ho, hc, n, hd⟩, _⟩ := I.tuple hs
    obtain ⟨as, hr, hm⟩ := Rd.readsAll I ha its rv
    exact ⟨_, Reads.tuple ho hc hd hr, hm⟩
  | _, _, .dct (a := a) (ks := ks) (vs := vs) (ds := ds) hs hl ha, u, r => by
    cases r
    obtain ⟨_, hn, ps, hp, o, es, ep, ho, hx, hd, _, hpairs, _⟩ : ObjOk X.prog X.w H s.heap a (.dK (ks.zip vs)) := I.hok a _ hs
    obtain ⟨e1, rv⟩ := kv_split hl hp
    obtain ⟨q1, q2⟩ := keys_reads (h := s.heap) hpairs
    have hlen := ha.length
    obtain ⟨bs, hr, hm⟩ := Rd.readsAll I ha _ rv
    have k1 : ((ks.map kD).zip ds).map (·.1) = ks.map kD := by
      rw [List.map_fst_zip (by simp; omega)]
    have k2 : ((ks.map kD).zip ds).map (·.2) = ds := by
      rw [List.map_snd_zip (by simp; omega)]
    refine ⟨_, Reads.dict ho hx.1 hd (as := []) (bs := bs) (by rw [k1, ← e1]; exact q1) (by rw [k2, q2]; exact hr), fun z => ?_⟩
    rcases List.mem_append.mp z with z | z
    · rcases List.mem_cons.mp z with z | z
      · rw [← z] at hn; simp at hn
      · cases z
    · exact hm z
theorem Rd.readsAll (I : Inv X pins σ H s) : ∀ {vs : List V} {ds : List PyData}, RdA X.K H vs ds → ∀ us : List Value, Vals vs us → ∃ as, ReadsAll s.heap us ds as ∧ sysModules ∉ as
  | _, _, .nil, us, r => by
    cases r
    exact ⟨_, ReadsAll.nil, by simp⟩
  | _, _, .cons h1 h2, us, r => by
    cases r with
    | cons r1 r2 =>
      obtain ⟨as, q1, m1⟩ := Rd.reads I h1 _ r1
      obtain ⟨bs, q2, m2⟩ := Rd.readsAll I h2 _ r2
      exact ⟨_, ReadsAll.cons q1 q2, fun z => (List.mem_append.mp z).elim m1 m2⟩
end
/-- repr(v) -/
structure rRepr (K : PySem.W.Frag) (xs : List V) (H : Hp) (Q : VK) : Prop where
  ex : ∃ v d, xs = [v] ∧ Rd K H v d ∧ d.showable = true ∧ d.depth ≤ 60 ∧ d.shown.length ≤ sizeLine ∧ Q (.str d.shown) H
theorem call_repr {k : Nat} (hr : Rm k X.A) : CallR X (.builtin "repr") (rRepr X.K) := by
  intro pins s σ H xs us Q I r h
  obtain ⟨v, d, rfl, hd, hs, hdep, hsz, q⟩ := h.ex
  cases r with
  | cons rv rn =>
    cases rn
    rename_i u
    obtain ⟨as, rd, hm⟩ := Rd.reads I hd u rv
    have hu := hr.room.units
    cases rd with
    | none => simp only [PyData.shown] at q; exact P.repr_of_none ⟨.str _, H, I.tok _, ⟨_, rfl⟩, q⟩
    | bool b => simp only [PyData.shown] at q; exact P.repr_of_bool ⟨.str _, H, I.tok _, ⟨_, rfl⟩, q⟩
    | int i t => simp only [PyData.shown] at q; exact P.repr_of_int (by simpa [PyData.showable] using hs) ⟨.str _, H, I.tok _, ⟨_, rfl⟩, q⟩
    | str x t => simp only [PyData.shown] at q hsz; exact P.repr_of_str ⟨.str _, H, I.tok _, ⟨_, rfl⟩, q⟩ hsz
    | list h1 h2 h3 h4 => exact repr_of_reads' (.list h1 h2 h3 h4) hs (fun _ => hm) hr.gd (by omega) (fun _ _ e => e) (fun h' u tk k => ⟨.str _, H, I.kept k, ⟨_, rfl⟩, q⟩) hsz
    | tuple h1 h2 h3 h4 => exact repr_of_reads' (.tuple h1 h2 h3 h4) hs (fun _ => hm) hr.gd (by omega) (fun _ _ e => e) (fun h' u tk k => ⟨.str _, H, I.kept k, ⟨_, rfl⟩, q⟩) hsz
    | dict h1 h2 h3 h4 h5 => exact repr_of_reads' (.dict h1 h2 h3 h4 h5) hs (fun _ => hm) hr.gd (by omega) (fun _ _ e => e) (fun h' u tk k => ⟨.str _, H, I.kept k, ⟨_, rfl⟩, q⟩) hsz

/-! ### isinstance -/
/-- an own exception class, asked by isinstance -/
structure ExK (K : PySem.W.Frag) (C : Addr) : Prop where
  hcl : (PySem.W.clsIn K C).isSome = true
  hga : PySem.W.findIn K (.ref C) "__getattribute__" = some (some (.builtin "BaseException.__getattribute__"))
  hgt : PySem.W.findIn K (.ref C) "__getattr__" = some none
  hsub : PySem.W.subIn K (.ref C) (.type "BaseException") = some true
  ha : PySem.W.findIn K (.ref C) "__class__" = some (some (.builtin "object.__class__"))
  hn : PySem.W.specialIn K (.builtin "object.__class__") "__get__" = some (some (.builtin "getset_descriptor.__get__"))
  htk : PySem.W.takesIn K (.builtin "object.__class__") = some true
  hm : PySem.W.mroIn K C (.type "object") = some true
/-- a value's type, kept exceptions too -/
inductive Ty (K : PySem.W.Frag) (H : Hp) : V → Value → Prop where
  | x {v : V} {t : Value} (h : TyX K H v t) : Ty K H v t
  | exc {a C : Addr} {d : Option Addr} (e : H a = some (ExV a (.ref C) d)) (hd : ∀ dd, d = some dd → ∃ fs, H dd = some (.xd fs)) (c : ExK K C) : Ty K H (.ref a) (.ref C)
theorem kit_ofT {x : V} {u t : Value} (I : Inv X pins σ H s) (rx : RelV x u) (ty : Ty X.K H x t) : ∃ P : Heap → Prop, PySem.W.KitX X.K u t P ∧ P s.heap ∧ u ≠ .builtin "__main__.__loader__#opaque" := by
  cases ty with
  | x h => exact kit_of I rx h
  | @exc a C d e hd c =>
    obtain rfl : u = Value.ref a := rx
    obtain ⟨oe, vs, h1, h2, h3, h4⟩ := exv_at I.hok e
    have nc : PySem.W.notCls oe = true := by unfold PySem.W.notCls; rw [h4] <;> rfl
    cases d with
    | none => exact ⟨_, PySem.W.kitx_exc (ox := oe) (od := none) c.hcl c.hga c.hgt c.hsub c.ha c.hn c.htk c.hm, ⟨h1, h2, nc, by rw [h3]; trivial⟩, fun z => nomatch z⟩
    | some dd =>
      obtain ⟨fs, ed⟩ := hd dd rfl
      obtain ⟨mA, hns, hr⟩ : ObjOk X.prog X.w H s.heap dd (.xd fs) := I.hok dd _ ed
      obtain ⟨od, ho, hl⟩ := lookIn_ns hns
      exact ⟨_, PySem.W.kitx_exc (ox := oe) (od := some od) c.hcl c.hga c.hgt c.hsub c.ha c.hn c.htk c.hm, ⟨h1, h2, nc, by rw [h3]; exact ho⟩, fun z => nomatch z⟩
/-- isinstance(x, c) -/
structure rIs (K : PySem.W.Frag) (xs : List V) (H : Hp) (Q : VK) : Prop where
  ex : ∃ (x c : V) (t u : Value) (b : Bool), xs = [x, c] ∧ ClsV c u ∧ Ty K H x t ∧ PySem.W.kitOne K t u = some b ∧ Q (.bl b) H
theorem call_is : CallR X (.builtin "isinstance") (rIs X.K) := by
  intro pins s σ H xs us Q I r h
  obtain ⟨x, c, t, u, b, rfl, k, ty, e, q⟩ := h.ex
  obtain ⟨u1, u2, rfl, r1, r2⟩ := vals2 r
  obtain rfl := k.eq r2
  obtain ⟨P, Z, p, hx⟩ := kit_ofT I r1 ty
  exact PySem.W.kia_one Z I.kIn p e hx fun tk => ⟨.bl b, H, I.tok tk, rfl, q⟩
/-- isinstance(x, (c1, c2, ..)) -/
structure rIsT (K : PySem.W.Frag) (xs : List V) (H : Hp) (Q : VK) : Prop where
  ex : ∃ (x : V) (tp : Addr) (cs : List V) (t : Value) (us : List Value) (b : Bool), xs = [x, .ref tp] ∧ H tp = some (.tup cs) ∧ Paired ClsV cs us ∧ Ty K H x t ∧ PySem.W.kitAny K t us = some b ∧ Q (.bl b) H
theorem call_isT : CallR X (.builtin "isinstance") (rIsT X.K) := by
  intro pins s σ H xs us Q I r h
  obtain ⟨x, tp, cs, t, ws, b, rfl, hT, k, ty, e, q⟩ := h.ex
  obtain ⟨u1, u2, rfl, r1, r2⟩ := vals2 r
  obtain rfl : u2 = Value.ref tp := r2
  obtain ⟨P, Z, p, hx⟩ := kit_ofT I r1 ty
  obtain ⟨_, its, rv, ⟨oc, od, dt, sl⟩, h1, h2, n, h3⟩ : ObjOk X.prog X.w H s.heap tp (.tup cs) := I.hok tp _ hT
  obtain rfl := ClsV.all k rv
  simp only at h2 h3
  subst h2 h3
  exact PySem.W.kia_tup Z I.kIn p h1 e hx fun tk => ⟨.bl b, H, I.tok tk, rfl, q⟩
end
theorem rIs_mk {K : PySem.W.Frag} {H : Hp} {Q : VK} {x c : V} {t u : Value} {b : Bool} (h : ClsV c u) (ty : Ty K H x t) (k : PySem.W.kitOne K t u = some b) (q : Q (.bl b) H) : rIs K [x, c] H Q := ⟨⟨x, c, t, u, b, rfl, h, ty, k, q⟩⟩
theorem rIsT_mk {K : PySem.W.Frag} {H : Hp} {Q : VK} {x : V} {tp : Addr} {cs : List V} {t : Value} {us : List Value} {b : Bool} (hT : H tp = some (.tup cs)) (h : Paired ClsV cs us) (ty : Ty K H x t) (k : PySem.W.kitAny K t us = some b) (q : Q (.bl b) H) : rIsT K [x, .ref tp] H Q := ⟨⟨x, tp, cs, t, us, b, rfl, hT, h, ty, k, q⟩⟩
theorem rRepr_mk {K : PySem.W.Frag} {H : Hp} {Q : VK} {v : V} {d : PyData} (r : Rd K H v d) (sh : d.showable = true) (dep : d.depth ≤ 60) (len : d.shown.length ≤ sizeLine) (q : Q (.str d.shown) H) : rRepr K [v] H Q := ⟨⟨v, d, rfl, r, sh, dep, len, q⟩⟩
end HS

/-! G3: own exception classes with one or two fields, the law's end. -/
namespace HS
open PySem PySem.Spec PyProof.Rows L2

/-! ### error classes whose __init__ stores its arguments -/
def spE1 (C : Addr) (f : Str) : Sp := fun vs H Q _ => ∃ a v, vs = [.ref a, v] ∧ H a = some (exo a C none) ∧ ∀ dx, H dx = none → dx ≠ a → Q .non (upd (upd H dx (exd dx [(f, v)])) a (exo a C (some dx)))
def spE2 (C : Addr) (f g : Str) : Sp := fun vs H Q _ => ∃ a v z, vs = [.ref a, v, z] ∧ H a = some (exo a C none) ∧ ∀ dx, H dx = none → dx ≠ a → Q .non (upd (upd (upd H dx (exd dx [(f, v)])) a (exo a C (some dx))) dx (exd dx [(g, z), (f, v)]))
section
variable {P : Program} {w : World} {K : PySem.W.Frag} {mg : Str → Option Value} {base : Heap} {C fI : Addr} {fd : FuncData} {qual f g : Str} {st : Stmt}
theorem fvis {N ps : List Str} {sc : Scope} (S : FnScope N ps sc) {x : Str} (h : x ∈ ps) : Vis sc x := (S.par x h).elim .inl fun z => .inr (.inl z)
theorem ok_E1 (F : Fun K "__init__" qual st fI fd) (S : FnScope ["self", f] ["self", f] (defScope st)) {p1 p2 p3 p4 : Pos} (hb : defBody st = [.Assign [.Attribute (.Name "self" p1) f p2] (.Name f p3) p4])
    (T : OexC K C) (no : PySem.W.findIn K (.ref C) f = some none) (hf : (f == ("__debug__" : Str)) = false) (hc : (f == ("__classdict__" : Str)) = false)
    (hs : ∀ env, swapsWith (.Name f p3) (some (.Attribute (.Name "self" p1) f p2)) p4.line env = pure false) : FnOk P w K mg base (L2.CX P w) 1 fI fd ["self", f] (spE1 C f) := by
  refine F.okX S (fun vs H Q E h => ?_) (fun cdv A outer s H vs Q E hr h => ?_)
  · obtain ⟨a, v, rfl, _⟩ := h
    rfl
  · obtain ⟨a, v, rfl, ha, k⟩ := h
    rw [hb]
    refine ⟨_, pss_one (ps_ost (pe_var (i := 0) rfl (fvis S (by simp))) (pe_var (i := 1) rfl (fvis S (by simp)) hf hc) (hs _)), ?_⟩
    exact ⟨_, rfl, _, rfl, a, C, rfl, T, no, .inl ⟨ha, fun dx n ne => k dx n ne⟩⟩
theorem ok_E2 (F : Fun K "__init__" qual st fI fd) (S : FnScope ["self", f, g] ["self", f, g] (defScope st)) {p1 p2 p3 p4 q1 q2 q3 q4 : Pos}
    (hb : defBody st = [.Assign [.Attribute (.Name "self" p1) f p2] (.Name f p3) p4, .Assign [.Attribute (.Name "self" q1) g q2] (.Name g q3) q4])
    (T : OexC K C) (no : PySem.W.findIn K (.ref C) f = some none) (no2 : PySem.W.findIn K (.ref C) g = some none) (hf : (f == ("__debug__" : Str)) = false) (hc : (f == ("__classdict__" : Str)) = false) (hg : (g == ("__debug__" : Str)) = false) (hgc : (g == ("__classdict__" : Str)) = false)
    (hs : ∀ env, swapsWith (.Name f p3) (some (.Attribute (.Name "self" p1) f p2)) p4.line env = pure false) (hs2 : ∀ env, swapsWith (.Name g q3) (some (.Attribute (.Name "self" q1) g q2)) q4.line env = pure false) :
    FnOk P w K mg base (L2.CX P w) 1 fI fd ["self", f, g] (spE2 C f g) := by
  refine F.okX S (fun vs H Q E h => ?_) (fun cdv A outer s H vs Q E hr h => ?_)
  · obtain ⟨a, v, z, rfl, _⟩ := h
    rfl
  · obtain ⟨a, v, z, rfl, ha, k⟩ := h
    rw [hb]
    refine ⟨_, pss_cons (ps_ost (pe_var (i := 0) rfl (fvis S (by simp))) (pe_var (i := 1) rfl (fvis S (by simp)) hf hc) (hs _)) (pss_one (ps_ost (pe_var (i := 0) rfl (fvis S (by simp))) (pe_var (i := 2) rfl (fvis S (by simp)) hg hgc) (hs2 _))), ?_⟩
    refine ⟨_, rfl, _, rfl, a, C, rfl, T, no, .inl ⟨ha, fun dx n ne => ?_⟩⟩
    exact ⟨_, rfl, _, rfl, a, C, rfl, T, no2, .inr ⟨dx, _, upd_same, by rw [upd_ne ne, upd_same], by simp, k dx n ne⟩⟩
end
/-- what the written part says of an own error class with one field -/
structure Er1 (P : Program) (w : World) (K : PySem.W.Frag) (mg : Str → Option Value) (base : Heap) (x f : Str) (C fI : Addr) (fd : FuncData) : Prop where
  T : OexC K C
  iC : PySem.W.findIn K (.ref C) "__init__" = some (some (.ref fI))
  tI : PySem.W.typeIn K (.ref fI) = some (.type "function")
  gC : mg x = some (.ref C)
  F : FnOk P w K mg base (L2.CX P w) 1 fI fd ["self", f] (spE1 C f)
  b : Binds K fd ["self", f] []
structure Er2 (P : Program) (w : World) (K : PySem.W.Frag) (mg : Str → Option Value) (base : Heap) (x f g : Str) (C fI : Addr) (fd : FuncData) : Prop where
  T : OexC K C
  iC : PySem.W.findIn K (.ref C) "__init__" = some (some (.ref fI))
  tI : PySem.W.typeIn K (.ref fI) = some (.type "function")
  gC : mg x = some (.ref C)
  F : FnOk P w K mg base (L2.CX P w) 1 fI fd ["self", f, g] (spE2 C f g)
  b : Binds K fd ["self", f, g] []
section
variable {X : Cx} {x f g : Str} {C fI : Addr} {fd : FuncData} {k : Nat} {e : Expr} {es : List Expr} {ta : TA} {p pos pos2 : Pos} {W : WX}
theorem back_to (H : Hp) {a d : Addr} {u v u' : HO} (na : H a = none) (n : d ≠ a) : upd (del (upd (upd (upd H a u) d v) a u') a) d = upd H d := by
  funext o b
  by_cases hb : b = d
  · rw [hb, upd_same, upd_same]
  · rw [upd_ne hb, upd_ne hb]
    by_cases hc : b = a
    · rw [hc, del_same, na]
    · rw [del_ne hc, upd_ne hc, upd_ne hb, upd_ne hc]
/-- a weaker end -/
def upA (ta : TA) : TA := fun σ H Q => ∃ Q0, ta σ H Q0 ∧ ∀ vs H', Q0 vs H' → Q vs H'
theorem PAup (h : PA X es ta) : PA X es (upA ta) := by
  constructor
  intro pos pins s σ H Q I hq
  obtain ⟨Q0, h0, hm⟩ := hq
  exact thn (h.run pos pins s σ H Q0 I h0) fun us s' ⟨vs, H', J, r, q⟩ => ⟨vs, H', J, r, hm _ _ q⟩
theorem pmk_E1 (R : Er1 X.prog X.w X.K X.mg X.base x f C fI fd) (hr : Rm k X.A) (h2 : 2 ≤ k) (hg : Gl X x) (ha : PA X (e :: es) ta)
    (hdb : (x == ("__debug__" : Str)) = false := by decide) (he : starEach (e :: es) X.env = (false, eval e X.env) :: starEach es X.env := by rfl) (hpl : (backTo pos (starEach es X.env)).any (·.1) = false := by rfl) :
    PMk X (.Call (.Name x p) (e :: es) [] pos) (fun σ H Q => ta σ H fun vs H1 => ∃ v, vs = [v] ∧ ∀ d, H1 d = none → Q (.ref C) (some d) (upd H1 d (.xd [(f, v)]))) := by
  intro pins s σ H Q I h
  refine pmk_oex R.T R.iC R.tI R.F (hr.room.mono h2) R.b .nil passE0 hg R.gC (PAup ha) hdb he hpl pins s σ H Q I ⟨_, h, ?_⟩
  rintro vs H1 ⟨v, rfl, q⟩
  refine ⟨by simp, fun a na => ⟨a, v, rfl, upd_same, fun dx n ne => ⟨rfl, ?_⟩⟩⟩
  have n1 : H1 dx = none := by rw [upd_ne ne] at n; exact n
  refine ⟨dx, _, upd_same, by rw [upd_ne ne, upd_same], n1, ?_⟩
  rw [back_to H1 na ne]
  exact q dx n1
theorem back_to2 (H : Hp) {a d : Addr} {u v v2 u' : HO} (na : H a = none) (n : d ≠ a) : upd (del (upd (upd (upd (upd H a u) d v) a u') d v2) a) d = upd H d := by
  funext o b
  by_cases hb : b = d
  · rw [hb, upd_same, upd_same]
  · rw [upd_ne hb, upd_ne hb]
    by_cases hc : b = a
    · rw [hc, del_same, na]
    · rw [del_ne hc, upd_ne hb, upd_ne hc, upd_ne hb, upd_ne hc]
theorem pmk_E2 (R : Er2 X.prog X.w X.K X.mg X.base x f g C fI fd) (hr : Rm k X.A) (h2 : 2 ≤ k) (hg : Gl X x) (ha : PA X (e :: es) ta)
    (hdb : (x == ("__debug__" : Str)) = false := by decide) (he : starEach (e :: es) X.env = (false, eval e X.env) :: starEach es X.env := by rfl) (hpl : (backTo pos (starEach es X.env)).any (·.1) = false := by rfl) :
    PMk X (.Call (.Name x p) (e :: es) [] pos) (fun σ H Q => ta σ H fun vs H1 => ∃ v z, vs = [v, z] ∧ ∀ d, H1 d = none → Q (.ref C) (some d) (upd H1 d (.xd [(g, z), (f, v)]))) := by
  intro pins s σ H Q I h
  refine pmk_oex R.T R.iC R.tI R.F (hr.room.mono h2) R.b .nil passE0 hg R.gC (PAup ha) hdb he hpl pins s σ H Q I ⟨_, h, ?_⟩
  rintro vs H1 ⟨v, z, rfl, q⟩
  refine ⟨by simp, fun a na => ⟨a, v, z, rfl, upd_same, fun dx n ne => ⟨rfl, ?_⟩⟩⟩
  have n1 : H1 dx = none := by rw [upd_ne ne] at n; exact n
  refine ⟨dx, _, by rw [upd_ne (Ne.symm ne), upd_same], upd_same, n1, ?_⟩
  rw [back_to2 H1 na ne]
  exact q dx n1
end

/-! ### the law's end -/
theorem callCX0 {P : Program} {w : World} {outer : List Env} {H : Hp} {s : Shared} {e : Value} {s' : Shared} (h : L2.CX P w outer H s (fun _ _ _ => False) e s') : False := by
  obtain ⟨a, B, H', cls, d, _, _, _, _, _, _, _, h⟩ := h
  exact h.elim
theorem rm_caller {k : Nat} (h : k ≤ 200) : Rm k callerA :=
  ⟨⟨rfl, by show 1 + 300 + 3 * k + 5 < 1000; omega, by show 4 + 16 * k + 200 < 9900; omega⟩, rfl⟩
end HS

/-! G4: from the law's promise to the row. -/
namespace HS
open PySem PySem.Spec PyProof.Rows L2

/-- at the law's entry nothing is tracked but the script, which stands still -/
structure Entry (K : PySem.W.Frag) (H : Hp) (a : Addr) (ns : List Int) : Prop where
  only : ∀ b, H b = none ∨ (b = a ∧ ∃ o, H b = some (.frz o (.lst (ns.map V.int))))
  scr : SqL K H a (ns.map V.int)
section
variable {P : Program} {w : World} {K : PySem.W.Frag} {mg mb : Str → Option Value} {k : Nat} {fa a : Addr} {fd : FuncData} {x : Str} {sp : Sp} {s₁ : Shared} {vs : List Value} {ns : List Int}
/-- the call from an abstract heap in which the script alone may be tracked -/
theorem entry_call {H : Hp} (KX : K.In s₁.heap) (hns : s₁.heap.Ns mainGlobals mg) (hb : s₁.heap.Ns builtinsNs mb) (hbb : ∀ x : Str, x ≠ "__name__" → mb x = bootBuiltins x) (hlim : s₁.heap.NoLimit) (hg : s₁.gens = #[])
    (ha : s₁.heap.get? a = some { cls := .type "list", data := .seq vs.toArray }) (hr : Rm k callerA)
    (F : ∀ base : Heap, K.In base → base.Ns mainGlobals mg → FnG P w K mg base k fa fd [x] sp) (hbind : ∀ (s : Shared) (u : Value), BindsTo s fd ⟨[u], []⟩ [(x, u)])
    (hE : Entry K H a ns) (hok : HOk P w H s₁.heap) (hK : H a ≠ none → K.lookup a = none) (hsp : sp [.ref a] H (fun v _ => v = .bl true) fun _ _ _ => False) :
    codeAny (model P w) callerA (.call (.ref fa) ⟨[.ref a], []⟩) (fun r s' => r = .ok (.ret (.bool true)) ∧ OldK s₁.heap s'.heap ∧ s'.os = s₁.os ∧ AllBare s'.gens) s₁ := by
  have free : ∀ {b : Addr}, b ≠ a → H b = none := fun {b} n => (hE.only b).elim id fun z => absurd z.1 n
  -- a namespace is not the script
  have nsK : ∀ {b : Addr} {m : Str → Option Value}, s₁.heap.Ns b m → (hidT s₁.heap H).Ns b m := by
    intro b m hn
    obtain ⟨o, es, ep, e, d, r⟩ := hn
    refine ⟨o, es, ep, hidT_get e (free fun z => ?_), d, r⟩
    rw [z, ha] at e
    cases e
    cases d
  have hKb : K.In (hidT s₁.heap H) := by
    intro b o e
    refine hidT_get (KX b o e) ?_
    by_cases hba : b = a
    · cases q : H b with
      | none => rfl
      | some u =>
        rw [hba] at q e
        rw [hK (by rw [q]; simp)] at e
        cases e
    · exact free hba
  have hlim' : (hidT s₁.heap H).NoLimit := let ⟨mc, h1, h2⟩ := hlim; ⟨mc, nsK h1, h2⟩
  have e0 : Env0 P w K mg (hidT s₁.heap H) callerA [] s₁ H :=
    { frames := rfl
      mod := ⟨hKb, nsK hns, ⟨mb, nsK hb, hbb⟩, hlim'⟩
      bs := fun b o e => of_hidT e
      bsz := Nat.le_of_eq (hidT_size _ _)
      funs := trivial
      frf := fun b z => nomatch z
      hok := hok
      bare := .of_eq hg }
  refine codeAny_mono ((F _ hKb (nsK hns)).run callerA [] s₁ H ⟨[.ref a], []⟩ [.ref a] [.ref a] _ _ hr e0 (hbind s₁ (.ref a)) (.cons rfl .nil) hsp) ?_
  intro r s' h
  cases r with
  | error e => exact (callCX0 h).elim
  | ok fl =>
    cases fl with
    | next => exact h.elim
    | brk => exact h.elim
    | cont => exact h.elim
    | ret u =>
      obtain ⟨v, H', os, bare, un, hok', rv, q⟩ := h
      obtain rfl : v = .bl true := q
      obtain rfl : u = Value.bool true := rv
      refine ⟨rfl, OldK.of_keep fun b o e => ?_, os, bare⟩
      rcases hE.only b with n | ⟨_, ob, n⟩
      · exact un.keep b o e n (fun z => nomatch z) (fun z => nomatch z)
      · obtain ⟨e1, _⟩ := hok b _ n
        obtain ⟨e2, _⟩ := hok' b _ (un.frzs b ob _ n)
        rw [e] at e1
        cases e1
        exact e2
theorem law_run (KX : K.In s₁.heap) (hns : s₁.heap.Ns mainGlobals mg) (hb : s₁.heap.Ns builtinsNs mb) (hbb : ∀ x : Str, x ≠ "__name__" → mb x = bootBuiltins x) (hlim : s₁.heap.NoLimit) (hg : s₁.gens = #[])
    (ha : s₁.heap.get? a = some { cls := .type "list", data := .seq vs.toArray }) (hi : IntsAre vs ns) (hl : ns.length ≤ sizeLine) (hr : Rm k callerA)
    (F : ∀ base : Heap, K.In base → base.Ns mainGlobals mg → FnG P w K mg base k fa fd [x] sp) (hbind : ∀ (s : Shared) (u : Value), BindsTo s fd ⟨[u], []⟩ [(x, u)])
    (hsp : ∀ H : Hp, Entry K H a ns → sp [.ref a] H (fun v _ => v = .bl true) fun _ _ _ => False) :
    codeAny (model P w) callerA (.call (.ref fa) ⟨[.ref a], []⟩) (fun r s' => r = .ok (.ret (.bool true)) ∧ OldK s₁.heap s'.heap ∧ s'.os = s₁.os ∧ AllBare s'.gens) s₁ := by
  have rv := vals_ints hi
  cases hk : K.lookup a with
  | some o =>
    have e := KX a o hk
    rw [ha] at e
    cases e
    have E : Entry K (fun _ => none) a ns := ⟨fun _ => .inl rfl, .inr ⟨_, vs.toArray, _, hk, rfl, rfl, rfl, by rw [List.size_toArray, hi.length]; exact hl, by simpa using rv⟩⟩
    exact entry_call KX hns hb hbb hlim hg ha hr F hbind E (fun b u z => nomatch z) (fun z => absurd rfl z) (hsp _ E)
  | none =>
    have E : Entry K (upd (fun _ => none) a (.frz { cls := .type "list", data := .seq vs.toArray } (.lst (ns.map V.int)))) a ns := by
      refine ⟨fun b => ?_, .inl (.inr ⟨_, upd_same⟩)⟩
      by_cases hba : b = a
      · exact .inr ⟨hba, _, by rw [hba]; exact upd_same⟩
      · exact .inl (by rw [upd_ne hba])
    refine entry_call KX hns hb hbb hlim hg ha hr F hbind E (fun b u z => ?_) (fun _ => hk) (hsp _ E)
    by_cases hba : b = a
    · subst hba
      rw [upd_same] at z
      cases z
      exact ⟨ha, by rw [List.length_map]; exact hl, vs, _, rv, ha⟩
    · rw [upd_ne hba] at z
      cases z
end
/-- the goal that k_head leaves, from the law's promise -/
theorem walk_G {l : PySem.W.OpenLaw} {n k : Nat} {q : Program} {loose : List Str} {XP : (Str → Option Value) → Heap → Prop} {YP : World → Heap → Prop} {d : DefRec} {K : Params → PySem.W.Frag} {sp : PySem.W.Frag → Sp} {x : Str}
    (hn : l.most = some n) (hn2 : n ≤ sizeLine) (hdf : d.params.defaults = []) (hr : k ≤ 200)
    (hY : ∀ (w : World) (h : Heap), YP w h → (K w.params).In h)
    (F : ∀ (w : World) (mg : Str → Option Value) (fa : Addr) (h : Heap), (K w.params).In h → h.Ns mainGlobals mg → mg d.name = some (.ref fa) →
      ∃ fd : FuncData, (∀ (s : Shared) (u : Value), BindsTo s fd ⟨[u], []⟩ [(x, u)]) ∧
        ∀ base : Heap, (K w.params).In base → base.Ns mainGlobals mg → FnG l.prog w (K w.params) mg base k fa fd [x] (sp (K w.params)))
    (hsp : ∀ (K : PySem.W.Frag) (H : Hp) (a : Addr) (ns : List Int), ns.length ≤ n → (∀ z ∈ ns, Builtin.Int.intBits z ≤ 1048576) → Entry K H a ns → sp K [.ref a] H (fun v _ => v = .bl true) fun _ _ _ => False) :
    PySem.W.WalkO q loose XP YP l.row.toRowW d [] (fun f vs => PySem.call f vs) := by
  refine Att.attach_callB hn hdf fun w s₀ s₁ mg mb fa o pm cd doc a vs ns G Y ho hd hcd hmg hobj hints hlen hbits hg => ?_
  have KX := hY w _ Y
  obtain ⟨fd, hb, hF⟩ := F w mg fa _ KX G.T.g hmg
  exact law_run KX G.T.g G.T.b G.T.builtins G.T.nolimit hg hobj hints (Nat.le_trans hlen hn2) (rm_caller hr) hF hb fun H E => hsp _ H a ns hlen hbits E
end HS

/-! G5: whole numbers of any size, lists that are not sys.modules. -/
namespace HS
open PySem PySem.Spec PyProof.Rows L2
/-! ### sizes -/
/-- below 2 ^ n in size -/
def Sz (n : Nat) (i : Int) : Prop := i.natAbs < 2 ^ n
theorem Sz.mono {m n : Nat} {i : Int} (h : Sz m i) (l : m ≤ n) : Sz n i := Nat.lt_of_lt_of_le h (Nat.pow_le_pow_right (by decide) l)
theorem Sz.of_lt {n : Nat} {i : Int} (h0 : -(2 ^ n : Nat) < i) (h : i < (2 ^ n : Nat)) : Sz n i := by unfold Sz; omega
theorem Sz.neg {n : Nat} {i : Int} (h : Sz n i) : Sz n (-i) := by unfold Sz at *; rwa [Int.natAbs_neg]
theorem Sz.mul {m n : Nat} {i j : Int} (h : Sz m i) (g : Sz n j) : Sz (m + n) (i * j) := wide_lt h g
theorem Sz.add {m n : Nat} {i j : Int} (h : Sz m i) (g : Sz n j) : Sz (max m n + 1) (i + j) := by
  have h' : Sz (max m n) i := h.mono (Nat.le_max_left ..)
  have g' : Sz (max m n) j := g.mono (Nat.le_max_right ..)
  unfold Sz at *
  rw [Nat.pow_succ]
  omega
theorem Sz.sub {m n : Nat} {i j : Int} (h : Sz m i) (g : Sz n j) : Sz (max m n + 1) (i - j) := by
  rw [Int.sub_eq_add_neg]
  exact h.add g.neg
theorem Sz.abs {n : Nat} {i : Int} (h : Sz n i) : Sz n (if i < 0 then -i else i) := by
  split
  · exact h.neg
  · exact h
theorem Sz.le {n : Nat} {i j : Int} (h : Sz n j) (l : i.natAbs ≤ j.natAbs) : Sz n i := Nat.lt_of_le_of_lt l h
theorem Sz.fdiv {n : Nat} {i : Int} (h : Sz n i) (j : Int) : Sz n (i.fdiv j) := h.le (Int.natAbs_fdiv_le_natAbs i j)
theorem Sz.fmodL {n : Nat} {i j : Int} (h0 : 0 < j) (h : Sz n j) : Sz n (i.fmod j) := by
  have h1 := Int.fmod_nonneg_of_pos i h0
  have h2 := Int.fmod_lt_of_pos i h0
  exact h.le (by omega)
theorem Sz.bits {n : Nat} {i : Int} (h : Sz n i) : Builtin.Int.intBits i ≤ n := intBits_le h
theorem Sz.of_bits {n : Nat} {i : Int} (h : Builtin.Int.intBits i ≤ n) : Sz n i := by
  unfold Sz
  unfold Builtin.Int.intBits at h
  split at h
  · rename_i hz
    have : i.natAbs = 0 := by simpa using hz
    have := Nat.two_pow_pos n
    omega
  · exact Nat.lt_of_lt_of_le Nat.lt_log2_self (Nat.pow_le_pow_right (by decide) h)
theorem Sz.log2 {n : Nat} {i : Int} (h : Sz n i) (h0 : 0 < n) : i.natAbs.log2 < n := PySem.Flt.log2_lt_of h0 h
/-! ### operators -/
def CMulG (i j : Int) : Prop := ∃ a b : Nat, Sz a i ∧ Sz b j ∧ a + b ≤ 134217728
def CDivG (_ j : Int) : Prop := j ≠ 0 ∧ ∃ b : Nat, Sz b j ∧ 0 < b ∧ b ≤ 8000
def CPowG (i j : Int) : Prop := 0 ≤ j ∧ ∃ a : Nat, Sz a i ∧ (a : Int) * j ≤ 134217728
section
variable {X : Cx}
theorem og_mul : OpR X (binaryOp .Mult) (rI CMulG fun i j => .int (i * j)) := opI fun i j _ _ _ _ _ hc q => by
  obtain ⟨a, b, h1, h2, h3⟩ := hc
  exact mul_int q (WideBits_ok h1 h2 h3)
where
  WideBits_ok {i j : Int} {a b : Nat} (h1 : Sz a i) (h2 : Sz b j) (h3 : a + b ≤ 134217728) : IntMulOk i j := by
    have x := h1.bits
    have y := h2.bits
    have e : bitsLine = 134217728 := by decide
    unfold IntMulOk
    intro z
    rw [Bool.and_eq_true] at z
    have z2 := z.2
    unfold Builtin.Int.intTooBig at z2
    have z3 := of_decide_eq_true z2
    rw [e] at z3
    omega
theorem og_fdiv : OpR X (binaryOp .FloorDiv) (rI CDivG fun i j => .int (i.fdiv j)) := opI fun i j _ _ _ _ _ hc q => by
  obtain ⟨h0, b, h1, h2, h3⟩ := hc
  exact floordiv_int h0 q (.inl (PyProof.noPylong_of_log2 (Nat.lt_of_lt_of_le (h1.log2 h2) (by omega))))
theorem og_mod : OpR X (binaryOp .Mod) (rI (fun _ j => j ≠ 0) fun i j => .int (i.fmod j)) := op_modN
theorem og_pow : OpR X (binaryOp .Pow) (rI CPowG fun i j => .int (i ^ j.toNat)) := opI fun i j _ _ _ _ _ hc q => by
  obtain ⟨h0, a, h1, h2⟩ := hc
  refine pow_int h0 ?_ q
  have x := h1.bits
  have : (Builtin.Int.intBits i : Int) * j ≤ (a : Int) * j := Int.mul_le_mul_of_nonneg_right (by omega) h0
  have e : (2 : Int) ^ 27 = 134217728 := by decide
  omega
/-- a written list that is not sys.modules -/
def tLstN (t : TA) : TE := fun σ H Q => t σ H fun xs H1 => xs.length ≤ sizeLine ∧ ∀ p, H1 p = none → p ≠ sysModules → Q (.ref p) (upd H1 p (.lst xs))
theorem pe_lstN {es : List Expr} {t : TA} {pos : Pos} (h : PA X es t) : PE X (.List es pos) (tLstN t) := by
  constructor
  intro pins s σ H Q I hq
  refine wpAny_List_spliced (thn (h.run pos pins s σ H _ I hq) ?_)
  rintro us s1 ⟨xs, H1, I1, r, z, q⟩
  refine ⟨by rw [← r.length]; exact z, ?_⟩
  have hf : H1 s1.heap.objs.size = none := I1.hok.fresh (Nat.le_refl _)
  have hn : s1.heap.objs.size ≠ sysModules := by
    obtain ⟨o, _, _, ho, _⟩ := I1.mod.glob
    have h1 : (3 : Nat) < X.base.objs.size := Heap.lt_size ho
    have h2 : X.base.objs.size ≤ X.s_0.heap.objs.size := I1.ok.bsz
    have h3 : X.s_0.heap.objs.size ≤ s1.heap.objs.size := I1.sz
    intro z
    have h5 : s1.heap.objs.size = (1 : Nat) := z
    omega
  exact ⟨.ref s1.heap.objs.size, upd H1 s1.heap.objs.size (.lst xs), I1.laid (t' := s1.toks) (fun b u e => Heap.get?_push_of_some _ e) (Nat.le_refl _) ⟨z, us, 0, r, Heap.get?_push_size _ rfl⟩, rfl, q _ hf hn⟩
end
end HS

/-! G6: constants of the top, keywords' binding, heaps that grow, the laws' pen. -/
namespace HS
open PySem PySem.Spec PyProof.Rows L2
section
variable {X : Cx}
/-- a module's constant -/
theorem pe_const {x : Str} {v : V} {pos : Pos} (h : ∃ u, X.mg x = some u ∧ RelV v u) (hg : Gl X x := by rfl) (hd : (x == ("__debug__" : Str)) = false := by decide) : PE X (.Name x pos) (tC v) := by
  obtain ⟨u, h1, h2⟩ := h
  exact pe_glob hg h1 h2 hd
end
section
variable {K : PySem.W.Frag} {x qual : Str} {st : Stmt} {f : Addr} {fd : FuncData} {ps ks : List Str} {n : Nat}
theorem bndK (F : Fun K x qual st f fd) (g : List Value → List Value → List Value) (gV : List V → List V → List V)
    (h : ∀ (kV doc pm : Value) (an : Option Addr) (cdv ct : Value) (us ws : List Value), us.length = n → ws.length = ks.length → bindArgs (PySem.W.fnOf x qual (defArgs st) (defBody st) (defScope st) .none kV doc pm an cdv ct) ⟨us, ks.zip ws⟩ = pure (ps.zip (g us ws)))
    (hr : ∀ {vs : List V} {us : List Value} {zs : List V} {ws : List Value}, vs.length = n → zs.length = ks.length → Vals vs us → Vals zs ws → Vals (gV vs zs) (g us ws)) : Bnd K fd ps n ks g gV := by
  obtain ⟨oc, od, kV, doc, pm, an, cdv, ct, osl, rfl, lk, hcd⟩ := F.ex
  exact ⟨fun s us ws _ h1 h2 => .of_eq (h kV doc pm an cdv ct us ws h1 h2), hr⟩
end

/-! ### heaps -/
section
variable {H H' H1 H2 : Hp} {a p : Addr} {o u : HO}
theorem upd_old (hp : H p = none) (h : H a = some o) : upd H p u a = some o := by rw [upd_ne (ne_of_none h hp)]; exact h
theorem same_new (hp : H p = none) : Same H (upd H p u) := fun b o e => upd_old hp e
theorem Same.use (S : Same H H') (h : H a = some o) : H' a = some o := S a o h
/-- all but p is as it was -/
def But (p : Addr) (H H' : Hp) : Prop := ∀ b o, b ≠ p → H b = some o → H' b = some o
theorem But.refl : But p H H := fun _ _ _ h => h
theorem But.of (S : Same H H') : But p H H' := fun b o _ h => S b o h
theorem But.trans (a : But p H H1) (b : But p H1 H2) : But p H H2 := fun c o n h => b c o n (a c o n h)
theorem But.use (S : But p H H') (n : a ≠ p) (h : H a = some o) : H' a = some o := S a o n h
theorem But.upd : But p H (upd H p u) := fun b o n h => by rw [upd_ne n]; exact h
theorem But.same (S : But p H H1) (T : Same H1 H2) : But p H H2 := fun b o n h => T b o (S b o n h)
theorem But.free (S : But p H H') (hp : ∃ o, H' p = some o) (e : H' a = none) : H a = none := by
  cases q : H a with
  | none => rfl
  | some o =>
    by_cases h : a = p
    · obtain ⟨o', e'⟩ := hp
      rw [h, e'] at e
      cases e
    · rw [S a o h q] at e
      cases e
theorem none_of_upd (e : upd H p u a = none) : a ≠ p ∧ H a = none := by
  by_cases h : a = p
  · rw [h, upd_same] at e
    cases e
  · rw [upd_ne h] at e
    exact ⟨h, e⟩
end

/-! ### the laws' pen -/
/-- at p: the cells (at c), how many were begun (at most n), what is left of a great one -/
structure Pen (n : Nat) (c : Addr) (H : Hp) (p : Addr) : Prop where
  ex : ∃ (ns : List Int) (b g : Int), H p = some (.lst [.ref c, .int b, .int g]) ∧ H c = some (.lst (ns.map V.int)) ∧ c ≠ p ∧ 0 ≤ b ∧ b ≤ n ∧ 0 ≤ g ∧ Sz 1048600 g ∧ (∀ z ∈ ns, Sz 1048576 z) ∧ ns.length ≤ 63
section
variable {m n : Nat} {H H' : Hp} {p a c q : Addr} {u : HO}
theorem Pen.mono (h : Pen m c H p) (l : m ≤ n) : Pen n c H p := by
  obtain ⟨ns, b, g, h1, h2, h3, h4, h5, h6⟩ := h.ex
  exact ⟨ns, b, g, h1, h2, h3, h4, by omega, h6⟩
theorem Pen.at (h : Pen n c H p) : ∃ o, H p = some o := by
  obtain ⟨ns, b, g, h1, _⟩ := h.ex
  exact ⟨_, h1⟩
theorem Pen.same (h : Pen n c H p) (S : Same H H') : Pen n c H' p := by
  obtain ⟨ns, b, g, h1, h2, h3⟩ := h.ex
  exact ⟨ns, b, g, S _ _ h1, S _ _ h2, h3⟩
theorem Pen.ne (h : Pen n c H p) (e : H a = none) : a ≠ p := by
  obtain ⟨o, q⟩ := h.at
  exact (ne_of_none q e).symm
theorem Pen.neC (h : Pen n c H p) (e : H a = none) : a ≠ c := by
  obtain ⟨ns, b, g, h1, h2, h3⟩ := h.ex
  exact (ne_of_none h2 e).symm
theorem Pen.put (h : Pen n c H p) (e : q ≠ p) (e2 : q ≠ c) : Pen n c (upd H q u) p := by
  obtain ⟨ns, b, g, h1, h2, h3⟩ := h.ex
  exact ⟨ns, b, g, by rw [upd_ne e.symm]; exact h1, by rw [upd_ne e2.symm]; exact h2, h3⟩
theorem But.put (S : But p H H') (e : H q = none) : But p H (L2.upd H' q u) := fun b o n h => by rw [upd_ne (ne_of_none h e)]; exact S b o n h
end
def spPen (K : PySem.W.Frag) : Sp := fun vs H Q _ => ∃ (a : Addr) (ns : List Int), vs = [.ref a] ∧ SqL K H a (ns.map V.int) ∧ ns.length ≤ 63 ∧ (∀ z ∈ ns, Sz 1048576 z) ∧
  ∀ (p c : Addr) (H' : Hp), H p = none → H c = none → Pen 0 c H' p → Same H H' → Q (.ref p) H'
def spDraw : Sp := fun vs H Q _ => ∃ (p c : Addr) (m : Int) (n : Nat), vs = [.ref p, .int m] ∧ Pen n c H p ∧ n ≤ 1000000000 ∧ 0 < m ∧ Sz 4000 m ∧
  ∀ (r : Int) (H' : Hp), 0 ≤ r → r < m → Pen (n + 1) c H' p → But p H H' → Q (.int r) H'
theorem dp_ints {K : PySem.W.Frag} {H : Hp} : ∀ (ns : List Int), DpAll K H (ns.map V.int) (ns.map PyData.int)
  | [] => .nil
  | n :: ns => .cons (.int n) (dp_ints ns)
theorem shaped_ints : ∀ (ns : List Int), SeqAt.shaped (.list (ns.map PyData.int)) = true := by
  intro ns
  induction ns with
  | nil => rfl
  | cons n ns ih => first | exact ih | simpa [SeqAt.shaped] using ih
theorem eqv_nil (ns : List Int) : PyData.eqv (.list (ns.map PyData.int)) (.list []) = ns.isEmpty := by
  cases ns <;> simp [PyData.eqv, PyData.eqvAll]
end HS

/-! G7: heaps without the pen, loops and list comprehensions by the values they run over, picking. -/
namespace HS
open PySem PySem.Spec PyProof.Rows L2
section
variable {K : PySem.W.Frag} {H H' H1 : Hp} {a p : Addr} {o u : HO} {v : V} {d : PyData} {vs : List V} {ds : List PyData}
/-- the heap without p -/
def Hd (p : Addr) (H : Hp) : Hp := fun a => if a = p then none else H a
theorem Hd.of (n : a ≠ p) (h : H a = some o) : Hd p H a = some o := by unfold Hd; rw [if_neg n]; exact h
theorem Hd.same : Same (Hd p H) H := fun b o e => by
  unfold Hd at e
  split at e
  · cases e
  · exact e
theorem Hd.ne (h : Hd p H a = some o) : a ≠ p := by
  rintro rfl
  unfold Hd at h
  rw [if_pos rfl] at h
  cases h
theorem But.hd (b : But p H H') : Same (Hd p H) (Hd p H') := fun c o e => Hd.of (Hd.ne e) (b c o (Hd.ne e) (Hd.same c o e))
theorem But.sub (b : But p H H') : Same (Hd p H) H' := fun c o e => b c o (Hd.ne e) (Hd.same c o e)
theorem Same.hd (b : Same H H') : Same (Hd p H) (Hd p H') := (But.of b).hd
theorem Same.trans {H2 : Hp} (a : Same H H1) (b : Same H1 H2) : Same H H2 := fun c o e => b c o (a c o e)
theorem Same.refl : Same H H := fun _ _ e => e
theorem Same.upd (S : Same H H') (h : H a = none) : Same H (upd H' a u) := fun b o e => by rw [upd_ne (ne_of_none e h)]; exact S b o e
theorem RdA.mem : ∀ {vs : List V} {ds : List PyData}, RdA K H vs ds → v ∈ vs → ∃ d ∈ ds, Rd K H v d
  | _, _, .nil, h => by cases h
  | _, _, .cons (vs := vs) r t, h => by
    rcases List.mem_cons.mp h with rfl | h
    · exact ⟨_, List.mem_cons_self, r⟩
    · obtain ⟨d, m, q⟩ := RdA.mem t h
      exact ⟨d, List.mem_cons_of_mem _ m, q⟩
theorem RdA.get : ∀ {vs : List V} {ds : List PyData}, RdA K H vs ds → ∀ {i : Nat}, vs[i]? = some v → ∃ d, ds[i]? = some d ∧ Rd K H v d
  | _, _, .nil, i, h => by simp at h
  | _, _, .cons r t, 0, h => by
    cases h
    exact ⟨_, rfl, r⟩
  | _, _, .cons r t, i + 1, h => RdA.get t (by simpa using h)
theorem RdA.app : ∀ {vs ws : List V} {ds es : List PyData}, RdA K H vs ds → RdA K H ws es → RdA K H (vs ++ ws) (ds ++ es)
  | _, _, _, _, .nil, q => q
  | _, _, _, _, .cons r t, q => .cons r (RdA.app t q)
end
/-! ### runs -/
/-- what is run over, as long as G stands -/
structure Runs (J : It) (xs : List V) (G : Hp → Prop) : Prop where
  stop : ∀ H, G H → J.stop xs.length H
  go : ∀ i H, i < xs.length → G H → J.go i H
  yld : ∀ i H x H', G H → J.yld i H x H' → H' = H ∧ xs[i]? = some x ∨ xs.length ≤ i
theorem runs_rng (lo : Int) (n : Nat) : Runs (Itr lo n) ((List.range n).map fun k => V.int (lo + (k : Nat))) (fun _ => True) :=
  ⟨fun _ _ => by show n ≤ _; simp, fun i _ h _ => by show i < n; simpa using h, fun i H x H' _ h => by
    obtain ⟨e, rfl⟩ := h
    by_cases q : i < n
    · exact .inl ⟨e, by simp [q]⟩
    · exact .inr (by simpa using q)⟩
theorem runs_str (x : Str) : Runs (Its x) (x.cps.toList.map fun c => V.str ⟨#[c]⟩) (fun _ => True) :=
  ⟨fun _ _ => by show x.cps.size ≤ _; simp, fun i _ h _ => by show i < x.cps.size; simpa using h, fun i H y H' _ h => by
    obtain ⟨e, c, hc, rfl⟩ := h
    exact .inl ⟨e, by simp [hc]⟩⟩
theorem runs_list {K : PySem.W.Frag} {a : Addr} {xs : List V} : Runs (Itl K a) xs (fun H => SqL K H a xs) :=
  ⟨fun _ g => ⟨xs, g, Nat.le_refl _⟩, fun i _ h g => ⟨xs, xs[i], g, by simp [h]⟩, fun i H y H' g h => .inl ⟨h.1, h.2 xs g⟩⟩
theorem runs_tup {K : PySem.W.Frag} {a : Addr} {xs : List V} : Runs (Itt K a) xs (fun H => SqT K H a xs) :=
  ⟨fun _ g => ⟨xs, g, Nat.le_refl _⟩, fun i _ h g => ⟨xs, xs[i], g, by simp [h]⟩, fun i H y H' g h => .inl ⟨h.1, h.2 xs g⟩⟩
section
variable {J : It} {xs : List V} {G : Hp → Prop} {σ : L2.St} {H1 : Hp} {Q : VK} {i : Nat} {te : TE} {tt : TT} {Dn : Ends} {g : TG} {tb : TS} {vs : List Nat}
/-- what a block asks of what it runs over -/
@[irreducible] def LcB (J : It) (g : TG) (tt : TT) (te : TE) (vs : List Nat) (σ : L2.St) (Q : VK) (D : Addr) (H1 : Hp) : Prop :=
    ∃ W : Nat → Nat → Hp → Prop, (∃ m, W 0 m (upd H1 D (.lst []))) ∧ ∀ k m H, W k m H →
      (J.stop k H ∧ Q (.ref D) H) ∨ (J.go k H ∧ ∃ Nx : Hp → Prop, (∀ H', Nx H' → ∃ m', m' < m ∧ W (k + 1) m' H') ∧ ∀ x H', J.yld k H x H' → g x (wipe σ vs) H' fun σ2 H2 => wipe σ2 vs = wipe σ vs ∧ tt σ2 H2 fun b H3 =>
        if b = true then te σ2 H3 fun y H4 => ∃ acc, H4 D = some (.lst acc) ∧ acc.length < sizeLine ∧ Nx (upd H4 D (.lst (acc ++ [y]))) else Nx H3)
/-- a list comprehension's reading, kept whole -/
@[irreducible] def tLcO (wi : TI) (g : TG) (tt : TT) (te : TE) (vs : List Nat) : TE := tLc wi g tt te vs
theorem tLc_mk {wi : TI} {H : Hp} (h : wi σ H fun J H1 => ∀ D, H1 D = none → LcB J g tt te vs σ Q D H1) : tLcO wi g tt te vs σ H Q := by
  unfold tLcO
  unfold LcB at h
  exact h
/-- what a loop asks of what it runs over -/
@[irreducible] def FoB (J : It) (g : TG) (tb : TS) (Dn : Ends) (σ : L2.St) (H1 : Hp) : Prop :=
    ∃ W : Nat → Nat → L2.St → Hp → Prop, (∃ m, W 0 m σ H1) ∧ ∀ i m σ H, W i m σ H →
      (J.stop i H ∧ Dn.nx σ H) ∨ (J.go i H ∧ ∃ N : L2.St → Hp → Prop, (∀ σ' H', N σ' H' → ∃ m', m' < m ∧ W (i + 1) m' σ' H') ∧ ∀ x H', J.yld i H x H' → g x σ H' fun σ2 H2 => tb { Dn with nx := N, ct := N, bk := Dn.nx } σ2 H2)
/-- a loop's reading, kept whole -/
@[irreducible] def tForO (wi : TI) (g : TG) (tb : TS) : TS := tFor wi g tb
theorem tFor_mk {wi : TI} {H : Hp} (h : wi σ H fun J H1 => FoB J g tb Dn σ H1) : tForO wi g tb Dn σ H := by
  unfold tForO
  unfold FoB at h
  exact h
/-- behind k turns of a block -/
def LcN (I : Nat → List V → Hp → Prop) (n k : Nat) (H : Hp) : Prop := ∃ acc, acc.length = k ∧ k ≤ n ∧ I k acc H
/-- what the element of the k-th turn is to reach -/
@[irreducible] def LcNx (I : Nat → List V → Hp → Prop) (D : Addr) (n k : Nat) : VK := fun y H4 => ∃ acc, H4 D = some (.lst acc) ∧ acc.length < sizeLine ∧ LcN I n (k + 1) (upd H4 D (.lst (acc ++ [y])))
theorem LcNx.mk {I : Nat → List V → Hp → Prop} {D : Addr} {n k : Nat} {y : V} {H4 : Hp} {acc : List V} (h : H4 D = some (.lst acc)) (l : acc.length = k) (hk : k < n) (hn : n ≤ sizeLine) (q : I (k + 1) (acc ++ [y]) (upd H4 D (.lst (acc ++ [y])))) : LcNx I D n k y H4 := by
  unfold LcNx
  exact ⟨acc, h, by omega, _, by simp [l], hk, q⟩
theorem wipe1 {σ : L2.St} {i : Nat} {x : V} : wipe ((wipe σ [i]).set i (some x)) [i] = wipe σ [i] := by
  show ((σ.set i none).set i (some x)).set i none = σ.set i none
  rw [List.set_set, List.set_set]
/-- the block of a list comprehension, one name running -/
theorem lc_in (R : Runs J xs G) (hn : xs.length ≤ sizeLine) {D : Addr} (I : Nat → List V → Hp → Prop)
    (h0 : I 0 [] (upd H1 D (.lst []))) (hD : ∀ k acc H, I k acc H → H D = some (.lst acc) ∧ G H)
    (step : ∀ k acc H x, I k acc H → acc.length = k → k < xs.length → xs[k]? = some x → te ((wipe σ [i]).set i (some x)) H (LcNx I D xs.length k))
    (fin : ∀ acc H, I xs.length acc H → acc.length = xs.length → Q (.ref D) H) :
    LcB J (gName i) tYes te [i] σ Q D H1 := by
  unfold LcNx at step
  unfold LcB
  refine ⟨fun k m H => m = xs.length - k ∧ LcN I xs.length k H, ⟨_, rfl, [], rfl, Nat.zero_le _, h0⟩, ?_⟩
  rintro k m H ⟨rfl, acc, hl, hk, hI⟩
  obtain ⟨e1, e2⟩ := hD _ _ _ hI
  by_cases h : k < xs.length
  · refine .inr ⟨R.go _ _ h e2, LcN I xs.length (k + 1), fun H' h1 => ⟨xs.length - (k + 1), by omega, rfl, h1⟩, fun x H' y => ?_⟩
    rcases R.yld _ _ _ _ e2 y with ⟨rfl, hx⟩ | z
    · exact ⟨wipe1, step k acc _ x hI hl h hx⟩
    · omega
  · have e : k = xs.length := by omega
    subst e
    exact .inl ⟨R.stop _ e2, fin _ _ hI hl⟩
/-- behind k turns of a block with a condition -/
def LfN (I : Nat → List V → Hp → Prop) (n k : Nat) (H : Hp) : Prop := ∃ acc, acc.length ≤ k ∧ k ≤ n ∧ I k acc H
@[irreducible] def LfNx (I : Nat → List V → Hp → Prop) (D : Addr) (n k : Nat) : VK := fun y H4 => ∃ acc, H4 D = some (.lst acc) ∧ acc.length < sizeLine ∧ LfN I n (k + 1) (upd H4 D (.lst (acc ++ [y])))
theorem LfNx.mk {I : Nat → List V → Hp → Prop} {D : Addr} {n k : Nat} {y : V} {H4 : Hp} {acc : List V} (h : H4 D = some (.lst acc)) (l : acc.length ≤ k) (hk : k < n) (hn : n ≤ sizeLine) (q : I (k + 1) (acc ++ [y]) (upd H4 D (.lst (acc ++ [y])))) : LfNx I D n k y H4 := by
  unfold LfNx
  exact ⟨acc, h, by omega, _, by simp; omega, hk, q⟩
/-- the block of a list comprehension, any target, a condition -/
theorem lcf_in (R : Runs J xs G) (hn : xs.length ≤ sizeLine) {D : Addr} (I : Nat → List V → Hp → Prop)
    (h0 : I 0 [] (upd H1 D (.lst []))) (hD : ∀ k acc H, I k acc H → H D = some (.lst acc) ∧ G H)
    (step : ∀ k acc H x, I k acc H → acc.length ≤ k → k < xs.length → xs[k]? = some x → g x (wipe σ vs) H fun σ2 H2 => wipe σ2 vs = wipe σ vs ∧ tt σ2 H2 fun b H3 => if b = true then te σ2 H3 (LfNx I D xs.length k) else LfN I xs.length (k + 1) H3)
    (fin : ∀ acc H, I xs.length acc H → acc.length ≤ xs.length → Q (.ref D) H) :
    LcB J g tt te vs σ Q D H1 := by
  unfold LfNx at step
  unfold LcB
  refine ⟨fun k m H => m = xs.length - k ∧ LfN I xs.length k H, ⟨_, rfl, [], Nat.le_refl _, Nat.zero_le _, h0⟩, ?_⟩
  rintro k m H ⟨rfl, acc, hl, hk, hI⟩
  obtain ⟨e1, e2⟩ := hD _ _ _ hI
  by_cases h : k < xs.length
  · refine .inr ⟨R.go _ _ h e2, LfN I xs.length (k + 1), fun H' h1 => ⟨xs.length - (k + 1), by omega, rfl, h1⟩, fun x H' y => ?_⟩
    rcases R.yld _ _ _ _ e2 y with ⟨rfl, hx⟩ | z
    · exact step k acc _ x hI hl h hx
    · omega
  · have e : k = xs.length := by omega
    subst e
    exact .inl ⟨R.stop _ e2, fin _ _ hI hl⟩
/-- a for loop -/
theorem for_in (R : Runs J xs G) (I : Nat → L2.St → Hp → Prop) (h0 : I 0 σ H1) (hG : ∀ k σ H, I k σ H → G H)
    (step : ∀ k σ H x, I k σ H → k < xs.length → xs[k]? = some x → g x σ H fun σ2 H2 => tb { Dn with nx := I (k + 1), ct := I (k + 1), bk := Dn.nx } σ2 H2)
    (fin : ∀ σ H, I xs.length σ H → Dn.nx σ H) :
    FoB J g tb Dn σ H1 := by
  unfold FoB
  refine ⟨fun k m σ H => m = xs.length - k ∧ k ≤ xs.length ∧ I k σ H, ⟨_, rfl, Nat.zero_le _, h0⟩, ?_⟩
  rintro k m σ H ⟨rfl, hk, hI⟩
  have e2 := hG _ _ _ hI
  by_cases h : k < xs.length
  · refine .inr ⟨R.go _ _ h e2, I (k + 1), fun σ' H' h1 => ⟨xs.length - (k + 1), by omega, rfl, h, h1⟩, fun x H' y => ?_⟩
    rcases R.yld _ _ _ _ e2 y with ⟨rfl, hx⟩ | z
    · exact step k σ _ x hI h hx
    · omega
  · have e : k = xs.length := by omega
    subst e
    exact .inl ⟨R.stop _ e2, fin _ _ hI⟩
end
section
variable {X : Cx}
theorem pe_lcO {elt tg iter : Expr} {ifs : List Expr} {scope : Scope} {own : List (Str × Nat)} {pos : Pos} {wi : TI} {g : TG} {tt : TT} {te : TE} (hc : X.calm = true) (hN : X.N.Nodup) (hi : PI X tg iter wi) (ok : BlkOk X.N X.env.scope scope own)
    (hg : ∀ (s : Shared) (H : Hp) (C : Addr) (cl : List (Str × Addr)) (fp : List Addr), PG (X.blk s H scope (compEnvC scope cl C X.env) fp) tg g) (ht : ∀ (s : Shared) (H : Hp) (C : Addr) (cl : List (Str × Addr)) (fp : List Addr), PTs (X.blk s H scope (compEnvC scope cl C X.env) fp) ifs tt)
    (he : ∀ (s : Shared) (H : Hp) (C : Addr) (cl : List (Str × Addr)) (fp : List Addr), PE (X.blk s H scope (compEnvC scope cl C X.env) fp) elt te) (hs : ∀ x, foldedSetIterable iter X.env x = pure x := by intro _; rfl) :
    PE X (.ListComp elt [⟨tg, iter, ifs, 0⟩] scope pos) (tLcO wi g tt te (own.map (·.2))) := by
  unfold tLcO
  exact pe_lc hc hN hi ok hg ht he hs
theorem ps_forO {tg iter : Expr} {body : List Stmt} {wi : TI} {g : TG} {tb : TS} {pos : Pos} (hp : PassesOwn (model X.prog X.w) X.A X.env X.xe) (hc : X.calm = true) (hi : PI X tg iter wi) (hg : PG X tg g) (hb : PSs X body tb)
    (hs : ∀ x, foldedSetIterable iter X.env x = pure x := by intro _; rfl) : PS X (.For tg iter body [] pos) (tForO wi g tb) := by
  unfold tForO
  exact ps_for hp hc hi hg hb hs
end
/-! ### picking -/
/-- what can be picked from x -/
def Pk (K : PySem.W.Frag) (H : Hp) (x : V) (xs : List V) : Prop := (∃ a, x = .ref a ∧ (SqL K H a xs ∨ SqT K H a xs)) ∨ (∃ z : Str, x = .str z ∧ z.length ≤ sizeLine ∧ xs = z.cps.toList.map fun c => V.str ⟨#[c]⟩)
theorem Pk.same {K : PySem.W.Frag} {H H' : Hp} {x : V} {xs : List V} (e : Same H H') (h : Pk K H x xs) : Pk K H' x xs := by
  rcases h with ⟨a, h1, h | h⟩ | h
  · exact .inl ⟨a, h1, .inl (L2.Same.seq e h)⟩
  · exact .inl ⟨a, h1, .inr (Same.tup e h)⟩
  · exact .inr h
theorem Pk.len {K : PySem.W.Frag} {H : Hp} {x : V} {xs : List V} (h : Pk K H x xs) : LenV K x H xs.length := by
  rcases h with ⟨a, rfl, h | h⟩ | ⟨z, rfl, h, rfl⟩
  · exact .inl ⟨_, h, rfl⟩
  · exact .inr ⟨_, h, rfl⟩
  · exact ⟨h, by simp [Str.length]⟩
theorem Pk.ix {K : PySem.W.Frag} {H : Hp} {x : V} {xs : List V} (h : Pk K H x xs) {r : Int} (h0 : 0 ≤ r) (h1 : r < xs.length) {Q : VK} (q : ∀ v ∈ xs, Q v H) : rIx K x (.int r) H Q := by
  obtain ⟨i, rfl⟩ : ∃ i : Nat, r = i := ⟨r.toNat, by omega⟩
  have hi : i < xs.length := by omega
  rcases h with ⟨a, rfl, h | h⟩ | ⟨z, rfl, h, rfl⟩
  · exact .inl ⟨a, xs, _, _, rfl, rfl, h, atI_nat (v := xs[i]) (by simp [hi]), q _ (List.getElem_mem _)⟩
  · exact .inr (.inl ⟨a, xs, _, _, rfl, rfl, h, atI_nat (v := xs[i]) (by simp [hi]), q _ (List.getElem_mem _)⟩)
  · have hi' : i < z.cps.toList.length := by simpa using hi
    exact .inr (.inr ⟨z, _, _, rfl, rfl, h, atI_nat (v := z.cps.toList[i]) (by simp [hi']), q _ (List.mem_map.mpr ⟨_, List.getElem_mem hi', rfl⟩)⟩)
def spPick (K : PySem.W.Frag) : Sp := fun vs H Q _ => ∃ (p c : Addr) (x : V) (xs : List V) (n : Nat), vs = [.ref p, x] ∧ Pen n c H p ∧ n ≤ 1000000000 ∧ Pk K (Hd p H) x xs ∧ 0 < xs.length ∧ xs.length ≤ 1000000 ∧
  ∀ v ∈ xs, ∀ H' : Hp, Pen (n + 1) c H' p → But p H H' → Q v H'
end HS

/-! G8: data: its type, how long its text is. -/
namespace HS
open PySem PySem.Spec PyProof.Rows L2
/-! ### types of data -/
def tyD : PyData → String
  | .none => "NoneType"
  | .bool _ => "bool"
  | .int _ => "int"
  | .str _ => "str"
  | .list _ => "list"
  | .tuple _ => "tuple"
  | .dict _ => "dict"
/-- isinstance(d, n) -/
def isD (n : String) (d : PyData) : Bool := tyD d == n || (n == "int" && tyD d == "bool")
theorem kit_ty (K : PySem.W.Frag) {n : String} (h : n ∈ ["str", "int", "bool", "list", "tuple", "dict"]) (d : PyData) : PySem.W.kitOne K (.type (tyD d)) (.type n) = some (isD n d) := by
  simp only [List.mem_cons, List.mem_nil_iff, or_false] at h
  rcases h with rfl | rfl | rfl | rfl | rfl | rfl <;> cases d <;> rfl
section
variable {K : PySem.W.Frag} {H : Hp} {v : V} {d : PyData}
theorem Rd.ty (h : Rd K H v d) : Ty K H v (.type (tyD d)) := by
  cases h with
  | non => exact .x (.base .non)
  | bl b => exact .x (.base (.bl b))
  | int i => exact .x (.base (.int i))
  | str x => exact .x (.base (.str x))
  | lst s n t =>
    rcases s with (s | ⟨o, s⟩) | ⟨o, its, n, e, c, _⟩
    · exact .x (.base (.lst s))
    · exact .x (.base (.frz s))
    · exact .x (.kList e c)
  | tup s t =>
    rcases s with (s | ⟨o, s⟩) | ⟨o, its, n, e, c, _⟩
    · exact .x (.base (.tup s))
    · exact .x (.fTuple s)
    · exact .x (.kTuple e c)
  | dct e l t => exact .x (.base (.dK e))
theorem is_of {n : String} (hn : n ∈ ["str", "int", "bool", "list", "tuple", "dict"]) (r : Rd K H v d) {Q : VK} (q : Q (.bl (isD n d)) H) : rIs K [v, .ty n] H Q :=
  rIs_mk (.ty n) r.ty (kit_ty K hn d) q
end
/-! ### how long a text is -/
/-- what can be shown: its text at most n signs long, at most k deep -/
structure Sm (n k : Nat) (d : PyData) : Prop where
  sh : d.showable = true
  dep : d.depth ≤ k
  len : d.shown.length ≤ n
theorem Sm.mono {n m k j : Nat} {d : PyData} (h : Sm n k d) (l : n ≤ m) (g : k ≤ j) : Sm m j d := ⟨h.sh, Nat.le_trans h.dep g, Nat.le_trans h.len l⟩
theorem Sm.none {n k : Nat} (h : 4 ≤ n := by omega) : Sm n k .none := ⟨rfl, Nat.zero_le _, Nat.le_trans (by decide : (PyData.shown .none).length ≤ 4) h⟩
theorem Sm.bool {n k : Nat} (b : Bool) (h : 5 ≤ n := by omega) : Sm n k (.bool b) := ⟨rfl, Nat.zero_le _, Nat.le_trans (by cases b <;> decide) h⟩
theorem Sm.str {n k : Nat} {x : Str} (hx : ∀ c ∈ x.cps.toList, c < 16 ^ 8) (h : 10 * x.length + 2 ≤ n) : Sm n k (.str x) := ⟨rfl, Nat.zero_le _, Nat.le_trans (StrLaws.reprText_len x hx) h⟩
theorem Sm.int {n k : Nat} {i : Int} (h : Sz (n - 1) i) (hn : 1 < n) (hb : n ≤ 1921) : Sm n k (.int i) := by
  refine ⟨?_, Nat.zero_le _, ?_⟩
  · simp only [PyData.showable, decide_eq_true_eq]
    exact PySem.Flt.log2_lt_of (by decide) (Nat.lt_of_lt_of_le h (Nat.pow_le_pow_right (by decide) (by omega)))
  · show (Str.ofString (toString i)).length ≤ n
    rw [PySem.ofString_length]
    have q := nat_repr_length_le (n := i.natAbs) (k := n - 1) (by omega) h
    cases i with
    | ofNat m =>
      have e : toString (Int.ofNat m) = Nat.repr m := rfl
      rw [e]
      exact Nat.le_trans q (by omega)
    | negSucc m =>
      have e : toString (Int.negSucc m) = "-" ++ Nat.repr (m + 1) := rfl
      rw [e, String.length_append]
      have q' : (Nat.repr (m + 1)).length ≤ n - 1 := q
      have : ("-" : String).length = 1 := rfl
      omega
theorem shownAll_mem : ∀ {ds : List PyData} {t : Str}, t ∈ PyData.shownAll ds → ∃ d ∈ ds, t = d.shown
  | [], _, h => by cases h
  | d :: ds, t, h => by
    rcases List.mem_cons.mp h with rfl | h
    · exact ⟨d, List.mem_cons_self, rfl⟩
    · obtain ⟨e, m, q⟩ := shownAll_mem h
      exact ⟨e, List.mem_cons_of_mem _ m, q⟩
theorem shownAll_length : ∀ (ds : List PyData), (PyData.shownAll ds).length = ds.length
  | [] => rfl
  | d :: ds => congrArg Nat.succ (shownAll_length ds)
theorem piled_le (ts : List Str) {n : Nat} (h : ∀ t ∈ ts, t.length ≤ n) : piled ts ≤ ts.length * (n + 2) := by
  induction ts with
  | nil => simp [piled]
  | cons t ts ih =>
    have h1 := h t List.mem_cons_self
    have h2 := ih fun u m => h u (List.mem_cons_of_mem _ m)
    rw [piled_cons, List.length_cons, Nat.succ_mul]
    omega
theorem textFrom_le : ∀ (ts : List Str) (k : Nat) (acc : Str), (textFrom k acc ts).length ≤ acc.length + piled ts
  | [], k, acc => Nat.le_add_right _ _
  | t :: r, k, acc => by
    have q := textFrom_le r (k + 1) (acc ++ (if k > 0 then ", " else "" : String) ++ t)
    have e : (acc ++ (if k > 0 then ", " else "" : String) ++ t).length = acc.length + (if k > 0 then 2 else 0) + t.length := by
      rw [strLen_append, strLen_append]
      split <;> rfl
    rw [e] at q
    rw [piled_cons]
    have e2 : (if k > 0 then 2 else 0 : Nat) ≤ 2 := by split <;> omega
    show (textFrom (k + 1) (acc ++ (if k > 0 then ", " else "" : String) ++ t) r).length ≤ _
    omega
theorem showableAll_mem : ∀ {ds : List PyData}, (∀ d ∈ ds, d.showable = true) → PyData.showableAll ds = true
  | [], _ => rfl
  | d :: ds, h => by
    simp only [PyData.showableAll, Bool.and_eq_true]
    exact ⟨h d List.mem_cons_self, showableAll_mem fun e m => h e (List.mem_cons_of_mem _ m)⟩
theorem depthAll_mem {k : Nat} : ∀ {ds : List PyData}, (∀ d ∈ ds, d.depth ≤ k) → PyData.depthAll ds ≤ k
  | [], _ => by simp [PyData.depthAll]
  | d :: ds, h => by
    have h1 := h d List.mem_cons_self
    have h2 := depthAll_mem (k := k) (ds := ds) fun e m => h e (List.mem_cons_of_mem _ m)
    simp only [PyData.depthAll]
    omega
theorem Sm.list {m n k : Nat} {ds : List PyData} (h : ∀ d ∈ ds, Sm n k d) (l : 2 + ds.length * (n + 2) ≤ m) : Sm m (k + 1) (.list ds) := by
  refine ⟨showableAll_mem fun d m => (h d m).sh, ?_, ?_⟩
  · simp only [PyData.depth]
    exact Nat.succ_le_succ (depthAll_mem fun d m => (h d m).dep)
  · have q := textFrom_le (PyData.shownAll ds) 0 "["
    have p := piled_le (PyData.shownAll ds) (n := n) fun t ht => by
      obtain ⟨d, hd, rfl⟩ := shownAll_mem ht
      exact (h d hd).len
    rw [shownAll_length] at p
    show (listText (PyData.shownAll ds)).length ≤ m
    unfold listText
    rw [strLen_append]
    have e1 : ((("[" : String) : Str)).length = 1 := rfl
    have e2 : ((("]" : String) : Str)).length = 1 := rfl
    omega
theorem Sm.tuple {m n k : Nat} {ds : List PyData} (h : ∀ d ∈ ds, Sm n k d) (l : 3 + ds.length * (n + 2) ≤ m) : Sm m (k + 1) (.tuple ds) := by
  refine ⟨showableAll_mem fun d m => (h d m).sh, ?_, ?_⟩
  · simp only [PyData.depth]
    exact Nat.succ_le_succ (depthAll_mem fun d m => (h d m).dep)
  · have p := piled_le (PyData.shownAll ds) (n := n) fun t ht => by
      obtain ⟨d, hd, rfl⟩ := shownAll_mem ht
      exact (h d hd).len
    rw [shownAll_length] at p
    show (tupleText (PyData.shownAll ds)).length ≤ m
    unfold tupleText
    rw [strLen_append, strLen_append]
    have e1 : ((("(" : String) : Str)).length = 1 := rfl
    have e3 : (((if (PyData.shownAll ds).length == 1 then ",)" else ")" : String) : Str)).length ≤ 2 := by split <;> decide
    by_cases h : PyData.shownAll ds = []
    · rw [h] at e3 ⊢
      have : (Str.join ", " []).length = 0 := rfl
      omega
    · have := join_length_add (PyData.shownAll ds) h
      omega
theorem shownKv_mem : ∀ {ds : List (PyData × PyData)} {t : Str}, t ∈ PyData.shownKv ds → ∃ d ∈ ds, t = d.1.shown ++ ": " ++ d.2.shown
  | [], _, h => by cases h
  | (d, f) :: ds, t, h => by
    rcases List.mem_cons.mp h with rfl | h
    · exact ⟨(d, f), List.mem_cons_self, rfl⟩
    · obtain ⟨e, m, q⟩ := shownKv_mem h
      exact ⟨e, List.mem_cons_of_mem _ m, q⟩
theorem shownKv_length : ∀ (ds : List (PyData × PyData)), (PyData.shownKv ds).length = ds.length
  | [] => rfl
  | (d, e) :: ds => congrArg Nat.succ (shownKv_length ds)
theorem showableKv_mem : ∀ {ds : List (PyData × PyData)}, (∀ d ∈ ds, d.1.showable = true ∧ d.2.showable = true) → PyData.showableKv ds = true
  | [], _ => rfl
  | (d, f) :: ds, h => by
    obtain ⟨h1, h2⟩ := h (d, f) List.mem_cons_self
    simp only [PyData.showableKv, Bool.and_eq_true]
    exact ⟨⟨h1, h2⟩, showableKv_mem fun e m => h e (List.mem_cons_of_mem _ m)⟩
theorem depthKv_mem {k : Nat} : ∀ {ds : List (PyData × PyData)}, (∀ d ∈ ds, d.1.depth ≤ k ∧ d.2.depth ≤ k) → PyData.depthKv ds ≤ k
  | [], _ => by simp [PyData.depthKv]
  | (d, f) :: ds, h => by
    obtain ⟨h1, h3⟩ := h (d, f) List.mem_cons_self
    have h2 := depthKv_mem (k := k) (ds := ds) fun e m => h e (List.mem_cons_of_mem _ m)
    simp only [PyData.depthKv]
    simp only at h1 h3
    omega
theorem Sm.dict {m n k : Nat} {ds : List (PyData × PyData)} (h : ∀ d ∈ ds, Sm n k d.1 ∧ Sm n k d.2) (l : 2 + ds.length * (2 * n + 4) ≤ m) : Sm m (k + 1) (.dict ds) := by
  refine ⟨showableKv_mem fun d m => ⟨(h d m).1.sh, (h d m).2.sh⟩, ?_, ?_⟩
  · simp only [PyData.depth]
    exact Nat.succ_le_succ (depthKv_mem fun d m => ⟨(h d m).1.dep, (h d m).2.dep⟩)
  · have p := piled_le (PyData.shownKv ds) (n := 2 * n + 2) fun t ht => by
      obtain ⟨d, hd, rfl⟩ := shownKv_mem ht
      have h1 := (h d hd).1.len
      have h2 := (h d hd).2.len
      rw [strLen_append, strLen_append]
      have e1 : (((": " : String) : Str)).length = 2 := rfl
      omega
    rw [shownKv_length, show 2 * n + 2 + 2 = 2 * n + 4 from rfl] at p
    show (dictText (PyData.shownKv ds)).length ≤ m
    unfold dictText
    rw [strLen_append, strLen_append]
    have e1 : ((("{" : String) : Str)).length = 1 := rfl
    have e2 : ((("}" : String) : Str)).length = 1 := rfl
    by_cases h : PyData.shownKv ds = []
    · rw [h]
      have : (Str.join ", " []).length = 0 := rfl
      omega
    · have := join_length_add (PyData.shownKv ds) h
      omega
/-- repr of data -/
theorem repr_of {K : PySem.W.Frag} {H : Hp} {v : V} {d : PyData} (r : Rd K H v d) (s : Sm 16777216 60 d) {Q : VK} (q : Q (.str d.shown) H) : rRepr K [v] H Q := rRepr_mk r s.sh s.dep s.len q
end HS

/-! G9: weaker statements, a pair of constants, joined signs. -/
namespace HS
open PySem PySem.Spec PyProof.Rows L2
section
variable {X : Cx} {st : Stmt} {t t' : TS}
theorem ps_imp (h : PS X st t) (m : ∀ D σ H, t' D σ H → t D σ H) : PS X st t' := ⟨fun pins s σ H D I q => h.run pins s σ H D I (m D σ H q)⟩
/-- a, b = (v, w), the pair laid by itself -/
def tParC (i j : Nat) (ta : TA) : TS := fun D σ H => ta σ H fun vs H1 => ∃ v w, vs = [v, w] ∧ ∀ q, H1 q = none → D.nx ((σ.set i (some v)).set j (some w)) (upd H1 q (.tup vs))
theorem ps_parC {es : List Expr} {ta : TA} {i j k : Nat} {x y : Str} {px py p q : Pos} {x1} (hc : X.calm = true) (hN : X.N.Nodup) (hi : X.N[i]? = some x) (hj : X.N[j]? = some y) (hx : X.env.scope.names.lookup x = some .local) (hy : X.env.scope.names.lookup y = some .local)
    (ha : PA X es ta) (hs : swapsWithSole [.Tuple [.Name x px, .Name y py] k p] (.Tuple es x1 q) pos.line X.env = pure false := by rfl) (hw : swappedStores [.Tuple [.Name x px, .Name y py] k p] (.Tuple es x1 q) X.env = pure none := by rfl)
    (h1 : (assignEach [.Tuple [.Name x px, .Name y py] k p] X.env).map (·.2) = [assign (.Tuple [.Name x px, .Name y py] k p) X.env] := by rfl) (hn : (assignEach [.Name x px, .Name y py] X.env).length = 2 := by rfl) (hst : (assignEach [.Name x px, .Name y py] X.env).findIdx? (·.1) = none := by rfl) :
    PS X (.Assign [.Tuple [.Name x px, .Name y py] k p] (.Tuple es x1 q) pos) (tParC i j ta) := by
  constructor
  intro pins s σ H D I h
  refine wpAny_Assign_stores (thn ((pe_tup (PAup ha)).run pins s σ H (fun v H' => gTup X.K 2 (gCons (gName i) (gCons (gName j) gNil)) v σ H' D.nx) I ?_) fun v s1 ⟨z, H1, I1, r1, q1⟩ => ?_) hs hw
  · refine ⟨_, h, fun vs H1 hq => ?_⟩
    obtain ⟨v, w, rfl, q⟩ := hq
    exact ⟨by show 2 ≤ sizeLine; decide, fun q' hq' => ⟨q', _, rfl, .inl (.inl upd_same), rfl, v, _, rfl, w, _, rfl, rfl, q q' hq'⟩⟩
  · rw [h1]
    exact thn ((pg_tup hc (pgs_cons (pg_name hN hi (.inl hx) (.inr hx)) (pgs_cons (pg_name hN hj (.inl hy) (.inr hy)) pgs_nil)) hn hst).run pins s1 σ H1 z v _ I1 r1 q1) fun _ s2 q => q
end
theorem kit_same (K : PySem.W.Frag) (C : Addr) : PySem.W.kitOne K (.ref C) (.ref C) = some true := by
  unfold PySem.W.kitOne
  rw [if_pos (by simp)]
/-- an error of the class at C is what «except S» names -/
theorem exm_of {K : PySem.W.Frag} {C S : Addr} (h1 : PySem.W.subIn K (.ref S) (.type "BaseException") = some true) (h2 : (PySem.W.clsIn K S).isSome = true) (h3 : PySem.W.typeIn K (.ref S) = some (.type "type")) (h4 : PySem.W.subIn K (.ref C) (.ref S) = some true) :
    PySem.W.exmOne K (.ref C) (.ref S) = some true := by
  have e1 : (PySem.W.subIn K (.ref S) (.type "BaseException") == some true) = true := by rw [h1] <;> rfl
  have e2 : ((PySem.W.clsIn K S).isSome && PySem.W.typeIn K (.ref S) == some (.type "type")) = true := by rw [h2, h3] <;> rfl
  show (if (PySem.W.subIn K (.ref S) (.type "BaseException") == some true) = true then (if ((PySem.W.clsIn K S).isSome && PySem.W.typeIn K (.ref S) == some (.type "type")) = true then PySem.W.subIn K (.ref C) (.ref S) else none) else none) = some true
  rw [if_pos e1, if_pos e2]
  exact h4
/-! ### comparing -/
@[irreducible] def rEqO : R2 := rEq
@[irreducible] def rNeO : R2 := rNe
section
variable {X : Cx} {x y : V} {z : Str} {H : Hp} {Q : VK}
theorem op_eqO : OpR X (compareOp .Eq) rEqO := by
  unfold rEqO
  exact op_eq
theorem op_neO : OpR X (compareOp .NotEq) rNeO := by
  unfold rNeO
  exact op_ne
theorem eq_mk (h : scal x y = true) (q : Q (.bl (decide (x = y))) H) : rEqO x y H Q := by
  unfold rEqO
  exact ⟨h, q⟩
theorem ne_mk (h : scal x y = true) (q : Q (.bl (!decide (x = y))) H) : rNeO x y H Q := by
  unfold rNeO
  exact ⟨h, q⟩
theorem eq_self (q : Q (.bl true) H) : rEqO (.str z) (.str z) H Q := eq_mk rfl (by rw [decide_eq_true rfl]; exact q)
theorem ne_self (q : Q (.bl false) H) : rNeO (.str z) (.str z) H Q := ne_mk rfl (by rw [decide_eq_true rfl]; exact q)
end
/-! ### signs -/
theorem cps_append (x y : Str) : (x ++ y).cps.toList = x.cps.toList ++ y.cps.toList := by
  show (x.cps ++ y.cps).toList = _
  simp
theorem join_cps : ∀ zs : List Str, (Str.join ⟨#[]⟩ zs).cps.toList = zs.flatMap (·.cps.toList)
  | [] => rfl
  | [x] => by simp [Str.join]
  | x :: y :: r => by
    have ih := join_cps (y :: r)
    show (x ++ ⟨#[]⟩ ++ Str.join ⟨#[]⟩ (y :: r)).cps.toList = _
    rw [cps_append, cps_append, ih]
    simp
theorem join_signs (cs : List Nat) : Str.join ⟨#[]⟩ (cs.map fun c => ⟨#[c]⟩) = ⟨cs.toArray⟩ := by
  have h : (Str.join ⟨#[]⟩ (cs.map fun c => (⟨#[c]⟩ : Str))).cps.toList = cs := by
    rw [join_cps]
    induction cs with
    | nil => rfl
    | cons c cs ih => simpa using ih
  have e : ∀ z : Str, z = ⟨z.cps.toList.toArray⟩ := fun z => by simp
  rw [e (Str.join _ _), h]
end HS

namespace HS
open PySem PySem.Spec PyProof.Rows L2
/-! ### the text by places -/
def top (i : Nat) : Stmt := PySem.Challenge.pw_holeshift_k02_names_told.main.body.getD i (.Pass ⟨0, 0, 0, 0⟩)

local macro_rules | `(tactic| walk_at "mem") => `(tactic| first
  | with_reducible assumption
  | exact upd_same
  | (refine upd_old (by with_reducible assumption) ?_; walk_at "mem")
  | (rw [upd_ne (by first | with_reducible assumption | exact Ne.symm (by with_reducible assumption))]; walk_at "mem")
  | (refine Same.use (by with_reducible assumption) ?_; walk_at "mem")
  | (refine But.use (by with_reducible assumption) (by with_reducible assumption) ?_; walk_at "mem"))
local macro_rules | `(tactic| walk_at "sz") => `(tactic| first
  | with_reducible assumption
  | (with_reducible apply Sz.add; (walk_at "sz"); (walk_at "sz"))
  | (with_reducible apply Sz.sub; (walk_at "sz"); (walk_at "sz"))
  | (with_reducible apply Sz.mul; (walk_at "sz"); (walk_at "sz"))
  | exact Sz.fmodL (by decide) (Sz.of_lt (n := 64) (by simp only [Nat.reducePow]; omega) (by simp only [Nat.reducePow]; omega))
  | exact Sz.of_lt (n := 64) (by simp only [Nat.reducePow]; omega) (by simp only [Nat.reducePow]; omega))
local macro_rules | `(tactic| walk_at "nz") => `(tactic| (show (_ : Int) ≠ 0; first | decide | omega))

def letterC (c : Nat) : Bool := decide (c ∈ (Str.ofString "abcdefghijklmnopqrstuvwxyz").cps.toList)
def nameS (z : Str) : Bool := (decide (1 ≤ z.length) && decide (z.length ≤ 8)) && z.cps.toList.all letterC
def nameD : PyData → Bool
  | .str z => nameS z
  | _ => false
def strD : PyData → Nat
  | .str z => z.length
  | _ => 0
def spIsName (K : PySem.W.Frag) : Sp := fun vs H Q _ => ∃ (v : V) (d : PyData), vs = [v] ∧ Rd K H v d ∧ strD d ≤ 1000000 ∧ ∀ H', Same H H' → Q (.bl (nameD d)) H'

def spNeed (K : PySem.W.Frag) (C : Addr) : Sp := fun vs H Q E => ∃ (v : V) (d : PyData), vs = [v] ∧ Rd K H v d ∧ strD d ≤ 1000000 ∧ (nameD d = true → ∀ H', Same H H' → Q .non H') ∧ (nameD d = false → ∀ (H' : Hp) (dd : Addr), Same H H' → H' dd = none → E (.ref C) (some dd) (upd H' dd (.xd [("value", v)])))
def spLetters : Sp := fun vs H Q _ => ∃ (p c : Addr) (m n : Nat), vs = [.ref p, .int m] ∧ Pen n c H p ∧ n ≤ 100000000 ∧ m ≤ 1000 ∧ ∀ (z : Str) (H' : Hp), z.length = m → (∀ c ∈ z.cps.toList, letterC c = true) → Pen (n + m) c H' p → But p H H' → Q (.str z) H'
def heardD (d : PyData) : PyData := if nameD d = true then .list [.none] else .tuple [d]
def spHeard (K : PySem.W.Frag) : Sp := fun vs H Q _ => ∃ (v : V) (d : PyData), vs = [v] ∧ Rd K H v d ∧ strD d ≤ 1000000 ∧ ∀ (u : V) (H' : Hp), Same H H' → Rd K H' u (heardD d) → Q u H'
@[irreducible] def spRight (K : PySem.W.Frag) : Sp := fun vs H Q _ => ∃ (v : V) (d : PyData), vs = [v, .bl (nameD d)] ∧ Rd K H v d ∧ strD d ≤ 1000000 ∧ Sm 1000 10 d ∧ ∀ (H' : Hp), Same H H' → Q (.bl true) H'
def spLaw (K : PySem.W.Frag) : Sp := fun vs H Q _ => ∃ (a : Addr) (ns : List Int), vs = [.ref a] ∧ SqL K H a (ns.map V.int) ∧ ns.length ≤ 63 ∧ (∀ z ∈ ns, Sz 1048576 z) ∧ ∀ H', Q (.bl true) H'

abbrev s__law_draw : Stmt := (top 11)
abbrev s__law_pick : Stmt := (top 12)
abbrev s__law_letters : Stmt := (top 13)
abbrev s__law_pen : Stmt := (top 10)
abbrev s_is_name : Stmt := (top 7)
abbrev s_need_name : Stmt := (top 8)
abbrev s__law_heard : Stmt := (top 14)
abbrev s__law_right : Stmt := (top 15)
abbrev s_law : Stmt := (top 16)
abbrev s_BadName_init : Stmt := (inClass (top 3) 0)
structure Ad where
  f__law_draw : Addr
  d__law_draw : FuncData
  f__law_pick : Addr
  d__law_pick : FuncData
  f__law_letters : Addr
  d__law_letters : FuncData
  f__law_pen : Addr
  d__law_pen : FuncData
  f_is_name : Addr
  d_is_name : FuncData
  f_need_name : Addr
  d_need_name : FuncData
  f__law_heard : Addr
  d__law_heard : FuncData
  f__law_right : Addr
  d__law_right : FuncData
  f_law : Addr
  d_law : FuncData
  f_BadName_init : Addr
  d_BadName_init : FuncData
  C_BadName : Addr
  C_ShiftError : Addr
/-- what the top has left -/
structure Txt (K : PySem.W.Frag) (mg : Str → Option Value) (D : Ad) : Prop where
  F__law_draw : Fun K "_law_draw" "_law_draw" s__law_draw D.f__law_draw D.d__law_draw
  F__law_pick : Fun K "_law_pick" "_law_pick" s__law_pick D.f__law_pick D.d__law_pick
  F__law_letters : Fun K "_law_letters" "_law_letters" s__law_letters D.f__law_letters D.d__law_letters
  F__law_pen : Fun K "_law_pen" "_law_pen" s__law_pen D.f__law_pen D.d__law_pen
  F_is_name : Fun K "is_name" "is_name" s_is_name D.f_is_name D.d_is_name
  F_need_name : Fun K "need_name" "need_name" s_need_name D.f_need_name D.d_need_name
  F__law_heard : Fun K "_law_heard" "_law_heard" s__law_heard D.f__law_heard D.d__law_heard
  F__law_right : Fun K "_law_right" "_law_right" s__law_right D.f__law_right D.d__law_right
  F_law : Fun K "law" "law" s_law D.f_law D.d_law
  F_BadName_init : Fun K "__init__" "BadName.__init__" s_BadName_init D.f_BadName_init D.d_BadName_init
  m__law_draw : mg "_law_draw" = some (.ref D.f__law_draw)
  m__law_pick : mg "_law_pick" = some (.ref D.f__law_pick)
  m__law_letters : mg "_law_letters" = some (.ref D.f__law_letters)
  m__law_pen : mg "_law_pen" = some (.ref D.f__law_pen)
  m_is_name : mg "is_name" = some (.ref D.f_is_name)
  m_need_name : mg "need_name" = some (.ref D.f_need_name)
  m__law_heard : mg "_law_heard" = some (.ref D.f__law_heard)
  m__law_right : mg "_law_right" = some (.ref D.f__law_right)
  m_law : mg "law" = some (.ref D.f_law)
  n_abs : mg "abs" = none
  n_all : mg "all" = none
  n_int : mg "int" = none
  n_isinstance : mg "isinstance" = none
  n_len : mg "len" = none
  n_list : mg "list" = none
  n_range : mg "range" = none
  n_repr : mg "repr" = none
  n_str : mg "str" = none
  c_LETTERS : ∃ u, mg "LETTERS" = some u ∧ RelV (.str "abcdefghijklmnopqrstuvwxyz") u
  c_LONGEST : ∃ u, mg "LONGEST" = some u ∧ RelV (.int (8)) u
  g_BadName : mg "BadName" = some (.ref D.C_BadName)
  x_BadName : ExK K D.C_BadName
  g_ShiftError : mg "ShiftError" = some (.ref D.C_ShiftError)
  x_ShiftError : ExK K D.C_ShiftError
  o_BadName : OexC K D.C_BadName
  xf_BadName : XfC K D.C_BadName
  i_BadName : PySem.W.findIn K (.ref D.C_BadName) "__init__" = some (some (.ref D.f_BadName_init))
  t_BadName : PySem.W.typeIn K (.ref D.f_BadName_init) = some (.type "function")
  no_BadName_value : PySem.W.findIn K (.ref D.C_BadName) "value" = some none
  ex_BadName : PySem.W.exmOne K (.ref D.C_BadName) (.ref D.C_ShiftError) = some true
section
variable {P : Program} {w : World} {K : PySem.W.Frag} {mg : Str → Option Value} {base : Heap} {D : Ad}
theorem sc_BadName_init : FnScope ["self", "value"] ["self", "value"] (defScope s_BadName_init) := ⟨rfl, rfl, rfl, by decide +kernel, rfl, by decide +kernel, by decide +kernel⟩
theorem er_BadName (T : Txt K mg D) : Er1 P w K mg base "BadName" "value" D.C_BadName D.f_BadName_init D.d_BadName_init :=
  ⟨T.o_BadName, T.i_BadName, T.t_BadName, T.g_BadName, ok_E1 T.F_BadName_init sc_BadName_init rfl T.o_BadName T.no_BadName_value (by decide) (by decide) (fun _ => rfl),
    T.F_BadName_init.binds (ps := ["self", "value"]) fun _ _ _ _ _ _ us hl => match us, hl with | [_, _], _ => rfl⟩
theorem sc__law_draw : FnScope ["_law_pen_here", "_law_many", "_law_digit", "_law_begun", "_law_lone", "_law_great", "_law_mixed"] ["_law_pen_here", "_law_many"] (defScope s__law_draw) := ⟨rfl, rfl, rfl, by decide +kernel, rfl, by decide +kernel, by decide +kernel⟩
theorem ok__law_draw (T : Txt K mg D) : FnG P w K mg base 2 D.f__law_draw D.d__law_draw ["_law_pen_here", "_law_many"] spDraw := by
  refine Fun.okG T.F__law_draw sc__law_draw (fun vs H Q E h => ?_) (fun cdv A outer s H vs Q E hr h => ?_)
  · obtain ⟨p, c, m, n, rfl, hP, hn, h0, hm, k⟩ := h
    rfl
  · obtain ⟨p, c, m, n, rfl, hP, hn, h0, hm, k⟩ := h

    refine ⟨_, (pss_cons (ps_if (pt_cmpR op_gt (pe_ix ix_list (pv 0) pe_int (fun _ _ => rfl)) pe_int (nomark _)) (pss_cons (ps_set (i := 2) sc__law_draw.nd rfl (Or.inl rfl) (pe_op og_mod (pe_callTy call_int1 (by rfl) T.n_int (by decide +kernel) (pa_cons (pe_ix ix_list (pv 0) pe_int (fun _ _ => rfl)) pa_nil)) (pv 1)))
      (pss_cons (ps_asg (pe_op og_fdiv (pe_callTy call_int1 (by rfl) T.n_int (by decide +kernel) (pa_cons (pe_ix ix_list (pv 0) pe_int (fun _ _ => rfl)) pa_nil)) (pv 1)) (pg_sub (pv 0) pe_int set_list))
      (pss_one (ps_ret (pv 2))))) pss_nil)
      (pss_cons (ps_set (i := 3) sc__law_draw.nd rfl (Or.inl rfl) (pe_ix ix_list (pv 0) pe_int (fun _ _ => rfl)))
      (C8.pss_cut (ps_asg (pe_op op_add (pv 3) pe_int) (pg_sub (pv 0) pe_int set_list))
      (pss_cons (ps_set (i := 4) sc__law_draw.nd rfl (Or.inl rfl) (pe_op op_add (pe_op og_mul pe_int (pv 3)) pe_int))
      (C8.pss_cut (ps_if (pt_cmpR (op_neD hr.room.units) (pe_ix ix_list (pv 0) pe_int (fun _ _ => rfl)) (pe_lstN pa_nil) (nomark _)) (pss_one (ps_set (i := 4) sc__law_draw.nd rfl (Or.inl rfl) (pe_ix ix_list (pe_ix ix_list (pv 0) pe_int (fun _ _ => rfl)) (pe_op og_mod (pe_callTy call_int1 (by rfl) T.n_int (by decide +kernel) (pa_cons (pv 3) pa_nil)) (pe_callB call_len (by rfl) T.n_len (by decide +kernel) (pa_cons (pe_ix ix_list (pv 0) pe_int (fun _ _ => rfl)) pa_nil))) (fun _ _ => rfl)))) pss_nil)
      (C8.pss_cut (ps_if (PW.pt (pw_and (pt_cmpR op_lt (pv 3) (pe_callB call_len (by rfl) T.n_len (by decide +kernel) (pa_cons (pe_ix ix_list (pv 0) pe_int (fun _ _ => rfl)) pa_nil)) (nomark _)) (pw_and1 (pt_cmpR op_ge (pe_callB call_abs (by rfl) T.n_abs (by decide +kernel) (pa_cons (pv 4) pa_nil)) (pe_op og_pow pe_int pe_int) (nomark _))))) (pss_cons (ps_set (i := 5) sc__law_draw.nd rfl (Or.inl rfl) (pe_op op_add (pe_op og_mul pe_int (pe_op op_sub (pe_callB call_abs (by rfl) T.n_abs (by decide +kernel) (pa_cons (pv 4) pa_nil)) (pe_op og_pow pe_int pe_int))) (pe_callTy call_int1 (by rfl) T.n_int (by decide +kernel) (pa_cons (pe_cmpR op_lt (pv 4) pe_int (nomark _)) pa_nil))))
      (pss_cons (ps_asg (pe_op og_fdiv (pe_callTy call_int1 (by rfl) T.n_int (by decide +kernel) (pa_cons (pv 5) pa_nil)) (pv 1)) (pg_sub (pv 0) pe_int set_list))
      (pss_one (ps_ret (pe_op og_mod (pe_callTy call_int1 (by rfl) T.n_int (by decide +kernel) (pa_cons (pv 5) pa_nil)) (pv 1)))))) pss_nil)
      (C8.pss_cut (ps_set (i := 6) sc__law_draw.nd rfl (Or.inl rfl) (pe_op og_mod (pe_callTy call_int1 (by rfl) T.n_int (by decide +kernel) (pa_cons (pe_op og_pow (pe_op op_add (pe_op op_add (pe_op og_mod (pe_callTy call_int1 (by rfl) T.n_int (by decide +kernel) (pa_cons (pv 4) pa_nil)) pe_int) (pe_op og_mul pe_int (pv 3))) pe_int) pe_int) pa_nil)) pe_int))
      (C8.pss_cut (ps_set (i := 6) sc__law_draw.nd rfl (Or.inl rfl) (pe_op og_mod (pe_callTy call_int1 (by rfl) T.n_int (by decide +kernel) (pa_cons (pe_op og_pow (pe_op op_add (pe_op op_add (pe_op og_mul (pv 6) (pe_op op_add (pe_op og_mul pe_int (pv 3)) pe_int)) (pe_op og_mul (pe_op og_mul pe_int (pv 3)) (pv 3))) pe_int) pe_int) pa_nil)) pe_int))
      (pss_one (ps_ret (pe_op og_mod (pe_callTy call_int1 (by rfl) T.n_int (by decide +kernel) (pa_cons (pe_op og_fdiv (pv 6) pe_int) pa_nil)) (pv 1)))))))))))), ?_⟩
    obtain ⟨ns, b, g, h1, h2, hcp, hb0, hbn, hg0, hgs, hns, hl⟩ := hP.ex
    have mne : m ≠ 0 := by omega
    have hdv : CDivG 0 m := ⟨mne, 4000, hm, by decide, by decide⟩
    refine ⟨_, rfl, _, _, _, _, rfl, rfl, SqL.of h1, rfl, _, _, rfl, rfl, _, rfl, ite2 (fun hg => ?_) (fun hg => ?_)⟩
    · -- a digit of a great cell
      refine ⟨_, rfl, _, _, _, _, rfl, rfl, SqL.of h1, rfl, .inl ⟨_, rfl, _, rfl, _, _, rfl, rfl, mne, ?_⟩⟩
      refine ⟨_, rfl, _, _, _, _, rfl, rfl, SqL.of h1, rfl, .inl ⟨_, rfl, _, rfl, _, _, rfl, rfl, hdv, ?_⟩⟩
      refine ⟨_, rfl, _, _, _, _, rfl, rfl, h1, rfl, ?_⟩
      refine ⟨_, rfl, ?_⟩
      refine k _ _ (Int.fmod_nonneg_of_pos _ h0) (Int.fmod_lt_of_pos _ h0) ⟨ns, b, g.fdiv m, upd_same, by rw [upd_ne hcp]; exact h2, hcp, hb0, by omega, ?_, hgs.fdiv m, hns, hl⟩ But.upd
      exact Int.fdiv_nonneg hg0 (by omega)
    · refine ⟨_, rfl, _, _, _, _, rfl, rfl, SqL.of h1, rfl, fun σ' H' => σ' = [some (.ref p), some (.int m), none, some (.int b), none, none, none] ∧ H' p = some (.lst [V.ref c, V.int (b + 1), V.int g]) ∧ H' c = some (.lst (ns.map V.int)) ∧ But p H H',
        ⟨_, rfl, _, _, rfl, rfl, _, rfl, _, _, _, 1, rfl, rfl, h1, rfl, rfl, upd_same, by rw [upd_ne hcp]; exact h2, But.upd⟩, ?_⟩
      rintro σ' H1 ⟨rfl, h3, h4, B1⟩
      refine ⟨_, rfl, _, _, rfl, rfl, ⟨64, 64, by walk_at "sz", by walk_at "sz", by decide⟩, _, _, rfl, rfl, ?_⟩
      -- the cells are there or not
      refine ⟨fun σ' H' => ∃ lone, σ' = [some (.ref p), some (.int m), none, some (.int b), some (.int lone), none, none] ∧ Sz 1048576 lone ∧ H' p = some (.lst [V.ref c, V.int (b + 1), V.int g]) ∧ H' c = some (.lst (ns.map V.int)) ∧ But p H H', ?_, ?_⟩
      · refine ⟨_, rfl, _, _, _, _, rfl, rfl, SqL.of h3, rfl, by show 0 ≤ sizeLine; decide, fun q hq hqs => ?_⟩
        have h5 : upd H1 q (.lst []) p = some (.lst [V.ref c, V.int (b + 1), V.int g]) := upd_old hq h3
        have h6 : upd H1 q (.lst []) c = some (.lst (ns.map V.int)) := upd_old hq h4
        have B2 : But p H (upd H1 q (.lst [])) := B1.same (same_new hq)
        have hq2 : upd H1 q (.lst []) q = some (.lst []) := upd_same
        generalize upd H1 q (.lst []) = H2 at h5 h6 B2 hq2 ⊢
        refine ⟨_, _, .lst (SqL.of h6) (dp_ints ns), .lst (SqL.of hq2) .nil, shaped_ints ns, rfl, _, rfl, ?_⟩
        rw [eqv_nil]
        by_cases he : ns = []
        · subst he
          refine iteF ⟨_, rfl, ?_, h5, h6, B2⟩
          exact Sz.mono (m := 64) (by walk_at "sz") (by decide)
        · have hl0 : 0 < ns.length := List.length_pos_iff.mpr he
          rw [show (!ns.isEmpty) = true by simp [he]]
          have hix : b.fmod (ns.length : Int) = ((b.toNat % ns.length : Nat) : Int) := by
            obtain ⟨b', rfl⟩ : ∃ b' : Nat, b = b' := ⟨b.toNat, by omega⟩
            rw [Int.fmod_eq_emod_of_nonneg _ (by omega)]
            rfl
          have hlt : b.toNat % ns.length < ns.length := Nat.mod_lt _ hl0
          refine iteT ⟨_, rfl, _, _, _, _, rfl, rfl, SqL.of h5, rfl, _, rfl, .inl ⟨_, rfl, _, rfl, _, _, _, _, rfl, rfl, SqL.of h5, rfl, _, _, rfl, .inl ⟨_, SqL.of h6, rfl⟩, _, _, rfl, rfl, by simp; omega, _, _, _, _, rfl, rfl, SqL.of h6, (by rw [List.length_map, hix]; exact atI_nat (v := V.int (ns[b.toNat % ns.length]'hlt)) (by simp [hlt])), ?_⟩⟩
          exact ⟨_, rfl, hns _ (List.getElem_mem _), h5, h6, B2⟩
      · rintro σ' H2 ⟨lone, rfl, hlone, h5, h6, B2⟩
        have ha : Sz 1048576 (if lone < 0 then -lone else lone) := hlone.abs
        have h10 : CPowG 10 18 := ⟨by decide, 4, by unfold Sz; decide, by decide⟩
        have e10 : (10 : Int) ^ (18 : Int).toNat = 1000000000000000000 := by decide
        refine ⟨fun σ' H' => σ' = [some (.ref p), some (.int m), none, some (.int b), some (.int lone), none, none] ∧ H' = H2, ?_, ?_⟩
        · refine ⟨_, rfl, _, rfl, _, _, _, _, rfl, rfl, SqL.of h5, rfl, _, _, rfl, .inl ⟨_, SqL.of h6, rfl⟩, _, _, rfl, rfl, _, rfl, ite2 (fun hlt => ?_) (fun hlt => iteF ⟨rfl, rfl⟩)⟩
          refine ⟨_, rfl, _, rfl, _, _, rfl, rfl, h10, _, _, rfl, rfl, _, rfl, ite2 (fun hge => ?_) (fun hge => ⟨rfl, rfl⟩)⟩
          rw [e10] at hge
          have hge' : (1000000000000000000 : Int) ≤ if lone < 0 then -lone else lone := of_decide_eq_true hge
          -- a great cell
          have hG : Sz 1048600 (2 * ((if lone < 0 then -lone else lone) - (10 : Int) ^ (18 : Int).toNat) + (if decide (lone < 0) = true then 1 else 0)) := by
            rw [e10]
            refine Sz.mono (Sz.add (m := 1048579) (n := 2) (Sz.mul (m := 2) (n := 1048577) (by unfold Sz; decide) ((ha.sub (n := 64) (by walk_at "sz")).mono (by decide))) ?_) (by decide)
            unfold Sz; split <;> decide
          have hG0 : 0 ≤ 2 * ((if lone < 0 then -lone else lone) - (10 : Int) ^ (18 : Int).toNat) + (if decide (lone < 0) = true then 1 else 0) := by
            rw [e10]
            split <;> split <;> simp_all <;> omega
          refine ⟨_, rfl, _, rfl, _, _, rfl, rfl, h10, _, _, rfl, rfl, _, _, rfl, rfl, ⟨2, 1048577, by unfold Sz; decide, (by rw [e10]; exact (ha.sub (n := 64) (by walk_at "sz")).mono (by decide)), by decide⟩, _, rfl, _, _, rfl, rfl, .inr ⟨_, rfl, _, _, rfl, rfl, ?_⟩⟩
          refine ⟨_, rfl, .inl ⟨_, rfl, _, rfl, _, _, rfl, rfl, hdv, _, rfl, _, _, _, 2, rfl, rfl, h5, rfl, _, rfl, .inl ⟨_, rfl, _, rfl, _, _, rfl, rfl, mne, ?_⟩⟩⟩
          refine k _ _ (Int.fmod_nonneg_of_pos _ h0) (Int.fmod_lt_of_pos _ h0) ⟨ns, b + 1, _, upd_same, by rw [upd_ne hcp]; exact h6, hcp, by omega, by omega, Int.fdiv_nonneg hG0 (by omega), hG.fdiv m, hns, hl⟩ (B2.trans But.upd)
        · rintro σ' H3 ⟨rfl, rfl⟩
          have small : ∀ (lone c1 : Int), 0 < c1 → c1 < 4294967296 → 0 ≤ lone.fmod c1 ∧ lone.fmod c1 < 4294967296 := fun lone c1 h1 h2 => ⟨Int.fmod_nonneg_of_pos _ h1, Int.lt_trans (Int.fmod_lt_of_pos _ h1) h2⟩
          refine ⟨fun σ' H' => ∃ x : Int, σ' = [some (.ref p), some (.int m), none, some (.int b), some (.int lone), none, some (.int x)] ∧ H' = H3 ∧ 0 ≤ x ∧ x < 4294967296, ?_, ?_⟩
          · refine ⟨_, rfl, .inl ⟨_, rfl, _, _, rfl, rfl, by walk_at "nz", _, rfl, _, _, rfl, rfl, ⟨64, 64, by walk_at "sz", by walk_at "sz", by decide⟩, _, _, rfl, rfl, _, _, rfl, rfl, ?_⟩⟩
            refine ⟨_, _, rfl, rfl, ⟨by decide, _, by walk_at "sz", by decide⟩, .inl ⟨_, rfl, _, _, rfl, rfl, by walk_at "nz", ?_⟩⟩
            exact ⟨_, rfl, rfl, small _ _ (by decide) (by decide)⟩
          · rintro σ' H4 ⟨x, rfl, rfl, hx0, hx1⟩
            refine ⟨fun σ' H' => ∃ x : Int, σ' = [some (.ref p), some (.int m), none, some (.int b), some (.int lone), none, some (.int x)] ∧ H' = H4 ∧ 0 ≤ x ∧ x < 4294967296, ?_, ?_⟩
            · refine ⟨_, rfl, _, rfl, _, _, rfl, rfl, ⟨64, 64, by walk_at "sz", by walk_at "sz", by decide⟩, _, _, rfl, rfl, _, _, rfl, rfl, ⟨64, 64, by walk_at "sz", by walk_at "sz", by decide⟩, ?_⟩
              refine ⟨_, rfl, _, _, rfl, rfl, ⟨64, 64, by walk_at "sz", by walk_at "sz", by decide⟩, _, rfl, _, _, rfl, rfl, ⟨_, 64, by walk_at "sz", by walk_at "sz", by decide⟩, _, _, rfl, rfl, _, _, rfl, rfl, ?_⟩
              refine ⟨_, _, rfl, rfl, ⟨by decide, _, by walk_at "sz", by decide⟩, .inl ⟨_, rfl, _, _, rfl, rfl, by walk_at "nz", ?_⟩⟩
              exact ⟨_, rfl, rfl, small _ _ (by decide) (by decide)⟩
            · rintro σ' H5 ⟨x, rfl, rfl, hx0, hx1⟩
              refine ⟨_, rfl, _, _, rfl, rfl, ⟨by walk_at "nz", 64, by walk_at "sz", by decide, by decide⟩, .inl ⟨_, rfl, _, rfl, _, _, rfl, rfl, mne, ?_⟩⟩
              exact k _ _ (Int.fmod_nonneg_of_pos _ h0) (Int.fmod_lt_of_pos _ h0) ⟨ns, b + 1, g, h5, h6, hcp, by omega, by omega, hg0, hgs, hns, hl⟩ B2
theorem sc__law_pick : FnScope ["_law_pen_here", "_law_some"] ["_law_pen_here", "_law_some"] (defScope s__law_pick) := ⟨rfl, rfl, rfl, by decide +kernel, rfl, by decide +kernel, by decide +kernel⟩
theorem ok__law_pick (T : Txt K mg D) : FnG P w K mg base 3 D.f__law_pick D.d__law_pick ["_law_pen_here", "_law_some"] (spPick K) := by
  refine Fun.okG T.F__law_pick sc__law_pick (fun vs H Q E h => ?_) (fun cdv A outer s H vs Q E hr h => ?_)
  · obtain ⟨p, c, x, xs, n, rfl, hP, hn, hx, h0, h1, k⟩ := h
    rfl
  · obtain ⟨p, c, x, xs, n, rfl, hP, hn, hx, h0, h1, k⟩ := h
    have G__law_draw : FnG P w K mg base 2 D.f__law_draw D.d__law_draw ["_law_pen_here", "_law_many"] spDraw := ok__law_draw T
    refine ⟨_, (pss_one (ps_ret (pe_ix ix_seq (pv 1) (pc_G G__law_draw (hr.mono (by decide)) takesF T.m__law_draw T.F__law_draw.kp (T.F__law_draw.binds (ps := ["_law_pen_here", "_law_many"]) fun _ _ _ _ _ _ us hl => match us, hl with | [_, _], _ => rfl) .nil (pa_cons (pv 0) (pa_cons (pe_callB call_len (by rfl) T.n_len (by decide +kernel) (pa_cons (pv 1) pa_nil)) pa_nil))) (fun _ _ => rfl)))), ?_⟩
    refine ⟨_, rfl, _, rfl, _, rfl, _, _, rfl, (hx.same Hd.same).len, p, _, _, n, rfl, hP, hn, by omega, (Sz.of_lt (n := 64) (by simp only [Nat.reducePow]; omega) (by simp only [Nat.reducePow]; omega)).mono (by decide), fun r H' r0 r1 hP' B => ?_⟩
    exact (hx.same B.sub).ix r0 r1 fun v hv => k v hv H' hP' B
theorem sc__law_letters : FnScope ["_law_pen_here", "_law_many", "_law_turn"] ["_law_pen_here", "_law_many"] (defScope s__law_letters) := ⟨rfl, rfl, rfl, by decide +kernel, rfl, by decide +kernel, by decide +kernel⟩
theorem ok__law_letters (T : Txt K mg D) : FnG P w K mg base 4 D.f__law_letters D.d__law_letters ["_law_pen_here", "_law_many"] spLetters := by
  refine Fun.okG T.F__law_letters sc__law_letters (fun vs H Q E h => ?_) (fun cdv A outer s H vs Q E hr h => ?_)
  · obtain ⟨p, c0, m, n, rfl, hP, hn, hm, k⟩ := h
    rfl
  · obtain ⟨p, c0, m, n, rfl, hP, hn, hm, k⟩ := h
    have G__law_pick : FnG P w K mg base 3 D.f__law_pick D.d__law_pick ["_law_pen_here", "_law_some"] (spPick K) := ok__law_pick T
    refine ⟨_, (pss_one (ps_ret (pe_join pe_str (pe_lcO (own := [("_law_turn", 2)]) (g := gName 2) (tt := tYes) rfl sc__law_letters.nd (pi_range1 (by rfl) T.n_range (pa_cons (pv 1) pa_nil)) (blkOk_by (own := [("_law_turn", 2)]) (N := ["_law_pen_here", "_law_many", "_law_turn"]) (sc := defScope s__law_letters) (by decide +kernel)) (fun _ _ _ _ _ => (pg_name (i := 2) sc__law_letters.nd rfl (Or.inl rfl))) (fun _ _ _ _ _ => pts_nil) (fun _ _ _ _ _ => (pc_G G__law_pick (hr.mono (by decide)) takesF T.m__law_pick T.F__law_pick.kp (T.F__law_pick.binds (ps := ["_law_pen_here", "_law_some"]) fun _ _ _ _ _ _ us hl => match us, hl with | [_, _], _ => rfl) .nil (pa_cons (pv 0) (pa_cons pe_str pa_nil)))))))), ?_⟩
    refine ⟨⟨_, rfl⟩, tLc_mk ⟨_, rfl, _, rfl, by omega, by omega, fun q hq => lc_in (runs_rng 0 m) (by simp; exact Nat.le_trans hm (by decide)) (fun i acc H' => H' q = some (.lst acc) ∧ Pen (n + i) c0 H' p ∧ But p H H' ∧ ∃ cs : List Nat, (∀ c ∈ cs, letterC c = true) ∧ acc = cs.map fun c => V.str ⟨#[c]⟩) ⟨upd_same, hP.same (same_new hq), .of (same_new hq), [], by simp, rfl⟩ (fun _ _ _ h => ⟨h.1, trivial⟩) ?_ ?_⟩⟩
    · rintro i acc H' x ⟨ha, hP', B, cs, hcs, rfl⟩ hl hi -
      have hqp : q ≠ p := hP.ne hq
      simp only [List.length_map, List.length_range] at hi
      refine ⟨_, rfl, p, _, _, _, _, rfl, hP', by omega, .inr ⟨_, rfl, by decide, rfl⟩, by decide, by decide, fun v hv H2 hP2 B2 => ?_⟩
      obtain ⟨c, hc, rfl⟩ := List.mem_map.mp hv
      have e2 := B2 _ _ hqp ha
      refine LcNx.mk e2 hl (by simpa using hi) (by simp; exact Nat.le_trans hm (by decide)) ⟨upd_same, ?_, (B.trans B2).put hq, cs ++ [c], ?_, by simp⟩
      · exact (hP2.put hqp (hP.neC hq)).mono (by omega)
      · intro d hd
        rcases List.mem_append.mp hd with hd | hd
        · exact hcs d hd
        · obtain rfl : d = c := by simpa using hd
          exact decide_eq_true hc
    · rintro acc H' ⟨ha, hP', B, cs, hcs, rfl⟩ hl
      refine ⟨_, q, cs.map fun c => ⟨#[c]⟩, rfl, rfl, .inl (SqL.of (by rw [ha, List.map_map]; rfl)), ?_, ?_⟩
      · have e : ((cs.map fun c => (⟨#[c]⟩ : Str)).map (·.length)).sum = cs.length := by
          clear hcs ha hl
          induction cs with
          | nil => rfl
          | cons c cs ih => simp only [List.map_cons, List.sum_cons, List.length_cons]; rw [ih]; show 1 + cs.length = _; omega
        rw [e]
        have hl' : cs.length = m := by simpa using hl
        show cs.length + _ * 0 ≤ 16777216
        omega
      · have e : Txt.join (Str.ofString "") (cs.map fun c => (⟨#[c]⟩ : Str)) = ⟨cs.toArray⟩ := (TL.join_eq _ _).trans (join_signs cs)
        have hl' : cs.length = m := by simpa using hl
        refine e ▸ k ⟨cs.toArray⟩ H' (by simpa [Str.length] using hl') (by simpa using hcs) (hP'.mono (by simp)) B
theorem sc__law_pen : FnScope ["_law_script"] ["_law_script"] (defScope s__law_pen) := ⟨rfl, rfl, rfl, by decide +kernel, rfl, by decide +kernel, by decide +kernel⟩
theorem ok__law_pen (T : Txt K mg D) : FnG P w K mg base 2 D.f__law_pen D.d__law_pen ["_law_script"] (spPen K) := by
  refine Fun.okG T.F__law_pen sc__law_pen (fun vs H Q E h => ?_) (fun cdv A outer s H vs Q E hr h => ?_)
  · obtain ⟨a, ns, rfl, hs, hl, hz, k⟩ := h
    rfl
  · obtain ⟨a, ns, rfl, hs, hl, hz, k⟩ := h

    refine ⟨_, (pss_one (ps_ret (pe_lstN (pa_cons (pe_callTy call_list_of (by rfl) T.n_list (by decide +kernel) (pa_cons (pe_slice sl_list (pv 0) po_none (po_some pe_int)) pa_nil)) (pa_cons pe_int (pa_cons pe_int pa_nil)))))), ?_⟩
    have e : cutV (ns.map V.int) none (some 63) = ns.map V.int := by
      have e1 : HT.sIx ns.length ns.length (some 63) = ns.length := by
        show (if (63 : Int) < 0 then ((63 : Int) + (ns.length : Nat)).toNat else min (63 : Int).toNat ns.length) = _
        rw [if_neg (by decide)]
        exact Nat.min_eq_right hl
      unfold cutV
      rw [List.length_map, e1, HT.sIx_none]
      simpa using List.take_of_length_le (by simp)
    refine ⟨_, rfl, _, rfl, _, _, rfl, hs, fun q hq => ⟨q, _, rfl, .inl (SqL.of upd_same), fun l hl2 => ⟨by show 3 ≤ sizeLine; decide, fun p hp _ => ?_⟩⟩⟩
    obtain ⟨n1, hp1⟩ := none_of_upd hp
    obtain ⟨n2, hp2⟩ := none_of_upd hp1
    refine k p l _ hp2 (none_of_upd hl2).2 ⟨ns, 0, 0, upd_same, ?_, fun z => n1 z.symm, by decide, by decide, by decide, Sz.mono (m := 64) (by walk_at "sz") (by decide), hz, hl⟩ (((same_new hq).trans (same_new hl2)).trans (same_new hp))
    rw [upd_ne (fun z => n1 z.symm), upd_same, e]
theorem sc_is_name : FnScope ["value", "letter"] ["value"] (defScope s_is_name) := ⟨rfl, rfl, rfl, by decide +kernel, rfl, by decide +kernel, by decide +kernel⟩
theorem ok_is_name (T : Txt K mg D) : FnG P w K mg base 2 D.f_is_name D.d_is_name ["value"] (spIsName K) := by
  refine Fun.okG T.F_is_name sc_is_name (fun vs H Q E h => ?_) (fun cdv A outer s H vs Q E hr h => ?_)
  · obtain ⟨v, d, rfl, hd, hz, k⟩ := h
    rfl
  · obtain ⟨v, d, rfl, hd, hz, k⟩ := h

    refine ⟨_, (pss_cons (ps_if (PW.pt (pw_or (pt_not (pt_val (pe_callB call_is (by rfl) T.n_isinstance (by decide +kernel) (pa_cons (pv 0) (pa_cons (pe_bltn (v := .ty "str") (by rfl) T.n_str (by decide +kernel) rfl) pa_nil))))) (pw_or1 (pt_not (pt_chain op_le op_le pe_int (pe_callB call_len (by rfl) T.n_len (by decide +kernel) (pa_cons (pv 0) pa_nil)) (pe_const T.c_LONGEST)))))) (pss_one (ps_ret pe_bl)) pss_nil)
      (pss_one (ps_ret (pe_callB (cr_all rfl) (by rfl) T.n_all (by decide +kernel) (pa_cons (pe_lcO (own := [("letter", 1)]) (g := gName 1) (tt := tYes) rfl sc_is_name.nd (pi_str (pv 0)) (blkOk_by (own := [("letter", 1)]) (N := ["value", "letter"]) (sc := defScope s_is_name) (by decide +kernel)) (fun _ _ _ _ _ => (pg_name (i := 1) sc_is_name.nd rfl (Or.inl rfl))) (fun _ _ _ _ _ => pts_nil) (fun _ _ _ _ _ => (pe_cmpR op_in_sign (pv 1) (pe_const T.c_LETTERS) rfl))) pa_nil))))), ?_⟩
    refine ⟨_, rfl, is_of (by decide) hd ⟨_, rfl, ?_⟩⟩
    cases hd with
    | str z =>
      have hz' : z.length ≤ 1000000 := hz
      have hS : z.length ≤ sizeLine := Nat.le_trans hz' (by decide)
      refine iteF ⟨_, rfl, _, _, rfl, ⟨hS, rfl⟩, _, _, rfl, rfl, _, rfl, ite2 (fun h1 => ⟨_, _, rfl, rfl, _, rfl, ite2 (fun h2 => ?_) (fun h2 => ?_)⟩) (fun h1 => ⟨_, rfl, iteT ?_⟩)⟩
      · have e : nameD (.str z) = false := by
          have : ¬ z.length ≤ 8 := by simp at h2; omega
          simp [nameD, nameS, this]
        exact e ▸ k H Same.refl
      · have h1' : 1 ≤ z.length := by simp at h1; omega
        have h2' : z.length ≤ 8 := by simp at h2; omega
        refine tLc_mk ⟨_, rfl, z, rfl, fun q hq => lc_in (runs_str z) (by simpa [Str.length] using hS) (fun k acc H' => H' q = some (.lst acc) ∧ acc = ((z.cps.toList.map letterC).take k).map V.bl ∧ Same H H') ⟨upd_same, rfl, same_new hq⟩ (fun _ _ _ h => ⟨h.1, trivial⟩) ?_ ?_⟩
        · rintro i acc H' x ⟨ha, he, hs⟩ hl hi hx
          obtain ⟨c, hc, rfl⟩ : ∃ c, z.cps.toList[i]? = some c ∧ V.str ⟨#[c]⟩ = x := by simpa using hx
          refine ⟨_, rfl, c, _, rfl, rfl, LcNx.mk ha hl hi (by simpa [Str.length] using hS) ⟨upd_same, ?_, Same.upd hs hq⟩⟩
          rw [he, List.take_succ, List.map_append, List.getElem?_map, hc]
          rfl
        · rintro acc H' ⟨ha, he, hs⟩ hl
          refine ⟨q, z.cps.toList.map letterC, rfl, SqL.of ?_, ?_⟩
          · rw [ha, he, List.take_of_length_le (by simp)]
          · have e : (z.cps.toList.map letterC).all id = nameD (.str z) := by
              simp [nameD, nameS, h1', h2', List.all_map, Function.comp_def]
            exact e ▸ k H' hs
      · have e : nameD (.str z) = false := by
          have : ¬ 1 ≤ z.length := by simp at h1; omega
          simp [nameD, nameS, this]
        exact e ▸ k H Same.refl
    | _ => exact iteT (iteT (k H Same.refl))
theorem sc_need_name : FnScope ["value"] ["value"] (defScope s_need_name) := ⟨rfl, rfl, rfl, by decide +kernel, rfl, by decide +kernel, by decide +kernel⟩
theorem ok_need_name (T : Txt K mg D) : FnG P w K mg base 3 D.f_need_name D.d_need_name ["value"] (spNeed K D.C_BadName) := by
  refine Fun.okG T.F_need_name sc_need_name (fun vs H Q E h => ?_) (fun cdv A outer s H vs Q E hr h => ?_)
  · obtain ⟨v, d, rfl, hd, hz, ky, kn⟩ := h
    rfl
  · obtain ⟨v, d, rfl, hd, hz, ky, kn⟩ := h
    have e_BadName : Er1 P w K mg base "BadName" "value" D.C_BadName D.f_BadName_init D.d_BadName_init := er_BadName T
    have G_is_name : FnG P w K mg base 2 D.f_is_name D.d_is_name ["value"] (spIsName K) := ok_is_name T
    refine ⟨_, (pss_one (ps_if (pt_not (pt_val (pc_G G_is_name (hr.mono (by decide)) takesF T.m_is_name T.F_is_name.kp (T.F_is_name.binds (ps := ["value"]) fun _ _ _ _ _ _ us hl => match us, hl with | [_], _ => rfl) .nil (pa_cons (pv 0) pa_nil)))) (pss_one (ps_raise rfl (takes_of (E := E) rfl rfl rfl rfl) (pmk_E1 (f := "value") e_BadName hr (by decide) rfl (pa_cons (pv 0) pa_nil)))) pss_nil)), ?_⟩
    refine ⟨_, rfl, v, d, rfl, hd, hz, fun H' S => ⟨_, rfl, ?_⟩⟩
    cases e : nameD d with
    | true => exact iteF (ky e H' S)
    | false => exact iteT ⟨_, rfl, _, rfl, fun dd hn => kn e H' dd S hn⟩
theorem sc__law_heard : FnScope ["_law_thing", "_law_caught", "_law_found", "error"] ["_law_thing"] (defScope s__law_heard) := ⟨rfl, rfl, rfl, by decide +kernel, rfl, by decide +kernel, by decide +kernel⟩
theorem ok__law_heard (T : Txt K mg D) : FnG P w K mg base 4 D.f__law_heard D.d__law_heard ["_law_thing"] (spHeard K) := by
  refine Fun.okG T.F__law_heard sc__law_heard (fun vs H Q E h => ?_) (fun cdv A outer s H vs Q E hr h => ?_)
  · obtain ⟨v, d, rfl, hd, hz, k⟩ := h
    rfl
  · obtain ⟨v, d, rfl, hd, hz, k⟩ := h
    have e_BadName : Er1 P w K mg base "BadName" "value" D.C_BadName D.f_BadName_init D.d_BadName_init := er_BadName T
    have G_need_name : FnG P w K mg base 3 D.f_need_name D.d_need_name ["value"] (spNeed K D.C_BadName) := ok_need_name T
    refine ⟨_, (pss_cons (ps_parC (i := 1) (j := 2) rfl sc__law_heard.nd rfl rfl rfl rfl (pa_cons pe_non (pa_cons pe_non pa_nil)))
      (pss_cons (ps_try_kp (i := 3) (tb := _) (ts := _) rfl rfl rfl sc__law_heard.nd rfl rfl ⟨rfl, by decide, Or.inl T.g_ShiftError⟩ (takes_of (E := E) rfl rfl rfl rfl) (fun W pn xe tk hp => (pss_cons (ps_expr (pc_G G_need_name (hr.mono (by decide)) tk T.m_need_name T.F_need_name.kp (T.F_need_name.binds (ps := ["value"]) fun _ _ _ _ _ _ us hl => match us, hl with | [_], _ => rfl) .nil (pa_cons (pv 0) pa_nil)))
      (pss_one (ps_set (i := 2) sc__law_heard.nd rfl (Or.inl rfl) (pc_GW0 G_need_name (hr.mono (by decide)) tk T.m_need_name T.F_need_name.kp (bndK (ps := ["value"]) (n := 0) (ks := ["value"]) T.F_need_name (fun us ws => match us, ws with | [], [w0] => [w0] | _, _ => []) (fun us ws => match us, ws with | [], [w0] => [w0] | _, _ => []) (fun _ _ _ _ _ _ us ws hu hw => match us, ws, hu, hw with | [], [_], _, _ => rfl) (fun hu hw r1 r2 => by rcases r1 with _ | ⟨_, _⟩; (rotate_left; (focus (simp at hu))); rcases r2 with _ | ⟨w0, r2⟩; (focus (simp at hw)); rcases r2 with _ | ⟨_, _⟩; (rotate_left; (focus (simp at hw))); exact (.cons w0 .nil))) (pk_cons (pv 0) pk_nil)))))) (fun a pn => (pss_one (ps_set (i := 1) sc__law_heard.nd rfl (Or.inl rfl) (pv 3)))))
      (pss_cons (ps_if (pt_cmp (pc_isN (pv 1)) rfl) (pss_one (ps_ret (pe_lstN (pa_cons (pv 2) pa_nil)))) pss_nil)
      (pss_one (ps_ret (pe_ifExp (pt_val (pe_callB call_is (by rfl) T.n_isinstance (by decide +kernel) (pa_cons (pv 1) (pa_cons (pe_glob (v := .ref D.C_BadName) rfl T.g_BadName rfl) pa_nil)))) (pe_tup (pa_cons (pe_xv (pv 1)) pa_nil)) pe_str)))))), ?_⟩
    refine ⟨_, _, rfl, fun q hq => ?_⟩
    have S1 : Same H (upd H q (.tup [.non, .non])) := same_new hq
    generalize upd H q (.tup [.non, .non]) = H1 at S1
    refine ⟨_, rfl, v, d, rfl, hd.same S1, hz, fun e H2 S2 => ?_, fun e H2 dd S2 hdd => ?_⟩
    · refine ⟨_, rfl, rfl, rfl, v, d, rfl, hd.same (Same.trans S1 S2), hz, fun _ H3 S3 => ?_, fun e' => by rw [e] at e'; cases e'⟩
      refine ⟨_, rfl, _, rfl, iteT ⟨_, rfl, by show 1 ≤ sizeLine; decide, fun p hp hs => ?_⟩⟩
      refine k _ _ (Same.trans (Same.trans S1 S2) (Same.trans S3 (same_new hp))) ?_
      unfold heardD
      rw [if_pos e]
      exact .lst (SqL.of upd_same) hs (.cons .non .nil)
    · refine ⟨true, T.ex_BadName, fun _ a ha => ?_, fun z => nomatch z⟩
      have ne : dd ≠ a := fun z => by rw [z, upd_same] at ha; cases ha
      have Ha : (upd (upd H2 dd (.xd [("value", v)])) a (ExV a (.ref D.C_BadName) (some dd))) a = some (ExV a (.ref D.C_BadName) (some dd)) := upd_same
      have Hd' : (upd (upd H2 dd (.xd [("value", v)])) a (ExV a (.ref D.C_BadName) (some dd))) dd = some (.xd [("value", v)]) := by rw [upd_ne ne, upd_same]
      have S3 : Same H (upd (upd H2 dd (.xd [("value", v)])) a (ExV a (.ref D.C_BadName) (some dd))) := Same.trans (Same.trans S1 S2) (Same.trans (same_new hdd) (same_new ha))
      generalize upd (upd H2 dd (.xd [("value", v)])) a (ExV a (.ref D.C_BadName) (some dd)) = H3 at Ha Hd' S3
      refine ⟨_, rfl, _, rfl, _, rfl, iteF ?_⟩
      refine ⟨_, rfl, rIs_mk (.own _) (.exc Ha (fun _ z => by cases z; exact ⟨_, Hd'⟩) T.x_BadName) (kit_same _ _) ⟨_, rfl, iteT ?_⟩⟩
      refine ⟨_, rfl, a, _, dd, _, v, rfl, Ha, Hd', rfl, T.xf_BadName, T.no_BadName_value, by show 1 ≤ sizeLine; decide, fun p hp => ?_⟩
      refine k _ _ (Same.trans S3 (same_new hp)) ?_
      unfold heardD
      rw [if_neg (by rw [e]; decide)]
      exact .tup (.inl (.inl upd_same)) (.cons (hd.same (Same.trans S3 (same_new hp))) .nil)
theorem sc__law_right : FnScope ["_law_thing", "_law_is_so"] ["_law_thing", "_law_is_so"] (defScope s__law_right) := ⟨rfl, rfl, rfl, by decide +kernel, rfl, by decide +kernel, by decide +kernel⟩
theorem ok__law_right (T : Txt K mg D) : FnG P w K mg base 5 D.f__law_right D.d__law_right ["_law_thing", "_law_is_so"] (spRight K) := by
  refine Fun.okG T.F__law_right sc__law_right (fun vs H Q E h => ?_) (fun cdv A outer s H vs Q E hr h => ?_)
  · unfold spRight at h
    obtain ⟨v, d, rfl, hd, hz, hs, k⟩ := h
    rfl
  · unfold spRight at h
    obtain ⟨v, d, rfl, hd, hz, hs, k⟩ := h
    have G__law_heard : FnG P w K mg base 4 D.f__law_heard D.d__law_heard ["_law_thing"] (spHeard K) := ok__law_heard T
    have G_is_name : FnG P w K mg base 2 D.f_is_name D.d_is_name ["value"] (spIsName K) := ok_is_name T
    refine ⟨_, (pss_cons (ps_if (pt_cmpR op_neO (pe_callB (call_repr hr) (by rfl) T.n_repr (by decide +kernel) (pa_cons (pe_lstN (pa_cons (pc_G G_is_name (hr.mono (by decide)) takesF T.m_is_name T.F_is_name.kp (T.F_is_name.binds (ps := ["value"]) fun _ _ _ _ _ _ us hl => match us, hl with | [_], _ => rfl) .nil (pa_cons (pv 0) pa_nil)) (pa_cons (pc_GW0 G_is_name (hr.mono (by decide)) takesF T.m_is_name T.F_is_name.kp (bndK (ps := ["value"]) (n := 0) (ks := ["value"]) T.F_is_name (fun us ws => match us, ws with | [], [w0] => [w0] | _, _ => []) (fun us ws => match us, ws with | [], [w0] => [w0] | _, _ => []) (fun _ _ _ _ _ _ us ws hu hw => match us, ws, hu, hw with | [], [_], _, _ => rfl) (fun hu hw r1 r2 => by rcases r1 with _ | ⟨_, _⟩; (rotate_left; (focus (simp at hu))); rcases r2 with _ | ⟨w0, r2⟩; (focus (simp at hw)); rcases r2 with _ | ⟨_, _⟩; (rotate_left; (focus (simp at hw))); exact (.cons w0 .nil))) (pk_cons (pv 0) pk_nil)) pa_nil))) pa_nil)) (pe_callB (call_repr hr) (by rfl) T.n_repr (by decide +kernel) (pa_cons (pe_lstN (pa_cons (pv 1) (pa_cons (pv 1) pa_nil))) pa_nil)) (nomark _)) (pss_one (ps_ret pe_bl)) pss_nil)
      (pss_one (ps_ret (pe_cmpR op_eqO (pe_callB (call_repr hr) (by rfl) T.n_repr (by decide +kernel) (pa_cons (pc_G G__law_heard (hr.mono (by decide)) takesF T.m__law_heard T.F__law_heard.kp (T.F__law_heard.binds (ps := ["_law_thing"]) fun _ _ _ _ _ _ us hl => match us, hl with | [_], _ => rfl) .nil (pa_cons (pv 0) pa_nil)) pa_nil)) (pe_callB (call_repr hr) (by rfl) T.n_repr (by decide +kernel) (pa_cons (pe_ifExp (pt_truth (pv 1) (by intro _; rfl)) (pe_lstN (pa_cons pe_non pa_nil)) (pe_tup (pa_cons (pv 0) pa_nil))) pa_nil)) (nomark _))))), ?_⟩
    have b2 : ∀ b : Bool, Sm 16777216 60 (.list [.bool b, .bool b]) := fun b => (Sm.list (m := 100) (n := 5) (k := 0) (by intro e he; simp at he; rw [he]; exact Sm.bool b) (by simp)).mono (by decide) (by decide)
    refine ⟨_, rfl, v, d, rfl, hd, hz, fun H1 S1 => ⟨_, rfl, rfl, rfl, v, d, rfl, hd.same S1, hz, fun H2 S2 => ⟨by show 2 ≤ sizeLine; decide, fun p hp hps => repr_of (.lst (SqL.of upd_same) hps (.cons (.bl _) (.cons (.bl _) .nil))) (b2 _) ?_⟩⟩⟩
    have S3 : Same H (upd H2 p (.lst [.bl (nameD d), .bl (nameD d)])) := Same.trans (Same.trans S1 S2) (same_new hp)
    generalize upd H2 p (.lst [.bl (nameD d), .bl (nameD d)]) = H3 at S3
    refine ⟨_, rfl, _, rfl, by show 2 ≤ sizeLine; decide, fun p2 hp2 hps2 => repr_of (.lst (SqL.of upd_same) hps2 (.cons (.bl _) (.cons (.bl _) .nil))) (b2 _) (ne_self ⟨_, rfl, iteF ?_⟩)⟩
    have S4 : Same H (upd H3 p2 (.lst [.bl (nameD d), .bl (nameD d)])) := Same.trans S3 (same_new hp2)
    generalize upd H3 p2 (.lst [.bl (nameD d), .bl (nameD d)]) = H4 at S4
    have sH : Sm 16777216 60 (heardD d) := by
      unfold heardD
      split
      · exact (Sm.list (m := 100) (n := 5) (k := 0) (by intro e he; simp at he; rw [he]; exact Sm.none) (by simp)).mono (by decide) (by decide)
      · exact (Sm.tuple (m := 2000) (n := 1000) (k := 10) (by intro e he; simp at he; rw [he]; exact hs) (by simp)).mono (by decide) (by decide)
    refine ⟨_, rfl, v, d, rfl, hd.same S4, hz, fun u H5 S5 hu => repr_of hu sH ?_⟩
    refine ⟨_, rfl, _, rfl, ite2 (fun hb => ?_) (fun hb => ?_)⟩
    · refine ⟨by show 1 ≤ sizeLine; decide, fun p3 hp3 hps3 => repr_of (d := heardD d) ?_ sH (eq_self (k _ (Same.trans (Same.trans S4 S5) (same_new hp3))))⟩
      unfold heardD
      rw [if_pos hb]
      exact .lst (SqL.of upd_same) hps3 (.cons .non .nil)
    · refine ⟨_, rfl, by show 1 ≤ sizeLine; decide, fun p3 hp3 => repr_of (d := heardD d) ?_ sH (eq_self (k _ (Same.trans (Same.trans S4 S5) (same_new hp3))))⟩
      unfold heardD
      rw [if_neg hb]
      exact .tup (.inl (.inl upd_same)) (.cons (hd.same (Same.trans (Same.trans S4 S5) (same_new hp3))) .nil)
theorem sc_law : FnScope ["_law_script", "_law_pen_here", "_law_turn", "_law_word", "_law_at", "_law_odd", "_law_thing"] ["_law_script"] (defScope s_law) := ⟨rfl, rfl, rfl, by decide +kernel, rfl, by decide +kernel, by decide +kernel⟩

theorem cutS_mem {z : Str} {lo hi : Option Int} {c : Nat} (h : c ∈ (cutS z lo hi).cps.toList) : c ∈ z.cps.toList := by
  have h' : c ∈ ((z.cps.toList.drop (HT.sIx z.length 0 lo)).take (HT.sIx z.length z.length hi - HT.sIx z.length 0 lo)) := by simpa [cutS] using h
  exact List.mem_of_mem_drop (List.mem_of_mem_take h')
theorem cutS_len {z : Str} {lo hi : Option Int} : (cutS z lo hi).length ≤ z.length := by
  have e : (cutS z lo hi).length = ((z.cps.toList.drop (HT.sIx z.length 0 lo)).take (HT.sIx z.length z.length hi - HT.sIx z.length 0 lo)).length := by simp [cutS, Str.length]
  rw [e, List.length_take, List.length_drop]
  have : z.cps.toList.length = z.length := by simp [Str.length]
  omega
theorem letter_lt {c : Nat} (h : letterC c = true) : c < 16 ^ 8 := by
  have q : ∀ c ∈ (Str.ofString "abcdefghijklmnopqrstuvwxyz").cps.toList, c < 16 ^ 8 := by decide
  exact q c (of_decide_eq_true h)
theorem name_bad {z : Str} {c : Nat} (h : c ∈ z.cps.toList) (l : letterC c = false) : nameD (.str z) = false := by
  have : z.cps.toList.all letterC = false := by
    rw [List.all_eq_false]
    exact ⟨c, h, by simp [l]⟩
  show ((decide (1 ≤ z.length) && decide (z.length ≤ 8)) && z.cps.toList.all letterC) = false
  rw [this, Bool.and_false]
theorem name_ok {z : Str} (h1 : 1 ≤ z.length) (h2 : z.length ≤ 8) (h : ∀ c ∈ z.cps.toList, letterC c = true) : nameD (.str z) = true := by
  show ((decide (1 ≤ z.length) && decide (z.length ≤ 8)) && z.cps.toList.all letterC) = true
  rw [decide_eq_true h1, decide_eq_true h2, List.all_eq_true.mpr h]
  rfl
theorem name_long {z : Str} (h : 8 < z.length) : nameD (.str z) = false := by
  show ((decide (1 ≤ z.length) && decide (z.length ≤ 8)) && z.cps.toList.all letterC) = false
  rw [decide_eq_false (show ¬ z.length ≤ 8 by omega), Bool.and_false, Bool.false_and]
theorem right_of {K : PySem.W.Frag} {H : Hp} {Q : VK} {E : XK} {v : V} {d : PyData} {b : Bool} (r : Rd K H v d) (hb : nameD d = b) (hz : strD d ≤ 1000000) (hs : Sm 1000 10 d) (k : ∀ H', Same H H' → Q (.bl true) H') : spRight K [v, .bl b] H Q E := by
  unfold spRight
  exact ⟨v, d, by rw [hb], r, hz, hs, k⟩
theorem right_str {K : PySem.W.Frag} {H : Hp} {Q : VK} {E : XK} {z : Str} {b : Bool} (hb : nameD (.str z) = b) (hl : z.length ≤ 90) (hc : ∀ c ∈ z.cps.toList, c < 16 ^ 8) (k : ∀ H', Same H H' → Q (.bl true) H') : spRight K [.str z, .bl b] H Q E :=
  right_of (.str z) hb (by show z.length ≤ 1000000; omega) (.str hc (by omega)) k
def oddS (z : Str) : Bool := z.length == 1 && z.cps.toList.all fun c => !letterC c && decide (c < 16 ^ 8)
theorem oddS_of {z : Str} (h : oddS z = true) : z.length = 1 ∧ (∀ c ∈ z.cps.toList, c < 16 ^ 8) ∧ ∃ c ∈ z.cps.toList, letterC c = false := by
  unfold oddS at h
  simp only [Bool.and_eq_true, beq_iff_eq, List.all_eq_true, Bool.not_eq_true', decide_eq_true_eq] at h
  obtain ⟨h1, h2⟩ := h
  refine ⟨h1, fun c hc => (h2 c hc).2, ?_⟩
  have hn : 0 < z.cps.toList.length := by rw [Array.length_toList]; show 0 < z.length; omega
  exact ⟨z.cps.toList[0], List.getElem_mem _, (h2 _ (List.getElem_mem _)).1⟩

theorem ok_law (T : Txt K mg D) : FnG P w K mg base 6 D.f_law D.d_law ["_law_script"] (spLaw K) := by
  refine Fun.okG T.F_law sc_law (fun vs H Q E h => ?_) (fun cdv A outer s H vs Q E hr h => ?_)
  · obtain ⟨a, ns, rfl, hs, hl, hz, k⟩ := h
    rfl
  · obtain ⟨a, ns, rfl, hs, hl, hz, k⟩ := h
    have G__law_draw : FnG P w K mg base 2 D.f__law_draw D.d__law_draw ["_law_pen_here", "_law_many"] spDraw := ok__law_draw T
    have G__law_letters : FnG P w K mg base 4 D.f__law_letters D.d__law_letters ["_law_pen_here", "_law_many"] spLetters := ok__law_letters T
    have G__law_pen : FnG P w K mg base 2 D.f__law_pen D.d__law_pen ["_law_script"] (spPen K) := ok__law_pen T
    have G__law_pick : FnG P w K mg base 3 D.f__law_pick D.d__law_pick ["_law_pen_here", "_law_some"] (spPick K) := ok__law_pick T
    have G__law_right : FnG P w K mg base 5 D.f__law_right D.d__law_right ["_law_thing", "_law_is_so"] (spRight K) := ok__law_right T
    refine ⟨_, (pss_cons (ps_set (i := 1) sc_law.nd rfl (Or.inl rfl) (pc_G G__law_pen (hr.mono (by decide)) takesF T.m__law_pen T.F__law_pen.kp (T.F__law_pen.binds (ps := ["_law_script"]) fun _ _ _ _ _ _ us hl => match us, hl with | [_], _ => rfl) .nil (pa_cons (pv 0) pa_nil)))
      (pss_cons (ps_forO (passes_of rfl) rfl (pi_range1 (by rfl) T.n_range (pa_cons pe_int pa_nil)) (pg_name (i := 2) sc_law.nd rfl (Or.inl rfl))
        (pss_cons (ps_set (i := 3) sc_law.nd rfl (Or.inl rfl) (pc_G G__law_letters (hr.mono (by decide)) takesF T.m__law_letters T.F__law_letters.kp (T.F__law_letters.binds (ps := ["_law_pen_here", "_law_many"]) fun _ _ _ _ _ _ us hl => match us, hl with | [_, _], _ => rfl) .nil (pa_cons (pv 1) (pa_cons (pe_op op_add pe_int (pc_G G__law_draw (hr.mono (by decide)) takesF T.m__law_draw T.F__law_draw.kp (T.F__law_draw.binds (ps := ["_law_pen_here", "_law_many"]) fun _ _ _ _ _ _ us hl => match us, hl with | [_, _], _ => rfl) .nil (pa_cons (pv 1) (pa_cons pe_int pa_nil)))) pa_nil))))
      (pss_cons (ps_set (i := 4) sc_law.nd rfl (Or.inl rfl) (pc_G G__law_draw (hr.mono (by decide)) takesF T.m__law_draw T.F__law_draw.kp (T.F__law_draw.binds (ps := ["_law_pen_here", "_law_many"]) fun _ _ _ _ _ _ us hl => match us, hl with | [_, _], _ => rfl) .nil (pa_cons (pv 1) (pa_cons (pe_callB call_len (by rfl) T.n_len (by decide +kernel) (pa_cons (pv 3) pa_nil)) pa_nil))))
      (pss_cons (ps_set (i := 5) sc_law.nd rfl (Or.inl rfl) (pc_G G__law_pick (hr.mono (by decide)) takesF T.m__law_pick T.F__law_pick.kp (T.F__law_pick.binds (ps := ["_law_pen_here", "_law_some"]) fun _ _ _ _ _ _ us hl => match us, hl with | [_, _], _ => rfl) .nil (pa_cons (pv 1) (pa_cons (pe_lstN (pa_cons pe_str (pa_cons pe_str (pa_cons pe_str (pa_cons pe_str (pa_cons pe_str (pa_cons pe_str (pa_cons pe_str (pa_cons pe_str (pa_cons pe_str (pa_cons pe_str (pa_cons pe_str (pa_cons pe_str (pa_cons pe_str pa_nil)))))))))))))) pa_nil))))
      (pss_cons (ps_if (PW.pt (pw_or (pt_not (pt_val (pc_G G__law_right (hr.mono (by decide)) takesF T.m__law_right T.F__law_right.kp (T.F__law_right.binds (ps := ["_law_thing", "_law_is_so"]) fun _ _ _ _ _ _ us hl => match us, hl with | [_, _], _ => rfl) .nil (pa_cons (pv 3) (pa_cons pe_bl pa_nil))))) (pw_or1 (pt_not (pt_val (pc_G G__law_right (hr.mono (by decide)) takesF T.m__law_right T.F__law_right.kp (T.F__law_right.binds (ps := ["_law_thing", "_law_is_so"]) fun _ _ _ _ _ _ us hl => match us, hl with | [_, _], _ => rfl) .nil (pa_cons (pe_op op_add_str (pe_op op_add_str (pe_slice sl_str (pv 3) po_none (po_some (pv 4))) (pv 5)) (pe_slice sl_str (pv 3) (po_some (pe_op op_add (pv 4) pe_int)) po_none)) (pa_cons pe_bl pa_nil)))))))) (pss_one (ps_ret pe_bl)) pss_nil)
      (pss_cons (ps_if (pt_not (pt_val (pc_G G__law_right (hr.mono (by decide)) takesF T.m__law_right T.F__law_right.kp (T.F__law_right.binds (ps := ["_law_thing", "_law_is_so"]) fun _ _ _ _ _ _ us hl => match us, hl with | [_, _], _ => rfl) .nil (pa_cons (pc_G G__law_letters (hr.mono (by decide)) takesF T.m__law_letters T.F__law_letters.kp (T.F__law_letters.binds (ps := ["_law_pen_here", "_law_many"]) fun _ _ _ _ _ _ us hl => match us, hl with | [_, _], _ => rfl) .nil (pa_cons (pv 1) (pa_cons (pe_op op_add pe_int (pc_G G__law_draw (hr.mono (by decide)) takesF T.m__law_draw T.F__law_draw.kp (T.F__law_draw.binds (ps := ["_law_pen_here", "_law_many"]) fun _ _ _ _ _ _ us hl => match us, hl with | [_, _], _ => rfl) .nil (pa_cons (pv 1) (pa_cons pe_int pa_nil)))) pa_nil))) (pa_cons pe_bl pa_nil))))) (pss_one (ps_ret pe_bl)) pss_nil)
      (pss_cons (ps_set (i := 6) sc_law.nd rfl (Or.inl rfl) (pc_G G__law_pick (hr.mono (by decide)) takesF T.m__law_pick T.F__law_pick.kp (T.F__law_pick.binds (ps := ["_law_pen_here", "_law_some"]) fun _ _ _ _ _ _ us hl => match us, hl with | [_, _], _ => rfl) .nil (pa_cons (pv 1) (pa_cons (pe_lstN (pa_cons pe_non (pa_cons pe_bl (pa_cons pe_bl (pa_cons pe_int (pa_cons pe_int (pa_cons pe_str (pa_cons (pe_tup (pa_cons (pv 3) pa_nil)) (pa_cons (pe_lstN (pa_cons (pv 3) pa_nil)) (pa_cons (pe_disp (pps_cons (pv 3) pe_int pps_nil) (by rfl) (by rfl) (fun z => by cases z) (by decide)) (pa_cons (pe_tup pa_nil) (pa_cons (pe_lstN pa_nil) (pa_cons pe_dnewK pa_nil))))))))))))) pa_nil))))
      (pss_one (ps_if (PW.pt (pw_or (pt_not (pt_val (pc_G G__law_right (hr.mono (by decide)) takesF T.m__law_right T.F__law_right.kp (T.F__law_right.binds (ps := ["_law_thing", "_law_is_so"]) fun _ _ _ _ _ _ us hl => match us, hl with | [_, _], _ => rfl) .nil (pa_cons (pv 6) (pa_cons pe_bl pa_nil))))) (pw_or (pt_not (pt_val (pc_G G__law_right (hr.mono (by decide)) takesF T.m__law_right T.F__law_right.kp (T.F__law_right.binds (ps := ["_law_thing", "_law_is_so"]) fun _ _ _ _ _ _ us hl => match us, hl with | [_, _], _ => rfl) .nil (pa_cons (pe_op op_add_str (pv 3) (pv 5)) (pa_cons pe_bl pa_nil))))) (pw_or1 (pt_not (pt_val (pc_G G__law_right (hr.mono (by decide)) takesF T.m__law_right T.F__law_right.kp (T.F__law_right.binds (ps := ["_law_thing", "_law_is_so"]) fun _ _ _ _ _ _ us hl => match us, hl with | [_, _], _ => rfl) .nil (pa_cons (pe_op op_add_str (pv 5) (pv 3)) (pa_cons pe_bl pa_nil))))))))) (pss_one (ps_ret pe_bl)) pss_nil)))))))))
      (pss_one (ps_ret (pe_and (pc_G G__law_right (hr.mono (by decide)) takesF T.m__law_right T.F__law_right.kp (T.F__law_right.binds (ps := ["_law_thing", "_law_is_so"]) fun _ _ _ _ _ _ us hl => match us, hl with | [_, _], _ => rfl) .nil (pa_cons pe_str (pa_cons pe_bl pa_nil))) (pe_and (pc_G G__law_right (hr.mono (by decide)) takesF T.m__law_right T.F__law_right.kp (T.F__law_right.binds (ps := ["_law_thing", "_law_is_so"]) fun _ _ _ _ _ _ us hl => match us, hl with | [_, _], _ => rfl) .nil (pa_cons pe_str (pa_cons pe_bl pa_nil))) (pe_one (pc_G G__law_right (hr.mono (by decide)) takesF T.m__law_right T.F__law_right.kp (T.F__law_right.binds (ps := ["_law_thing", "_law_is_so"]) fun _ _ _ _ _ _ us hl => match us, hl with | [_, _], _ => rfl) .nil (pa_cons pe_str (pa_cons pe_bl pa_nil)))))))))), ?_⟩
    refine ⟨_, rfl, a, ns, rfl, hs, hl, hz, fun p c H0 hp0 hc0 hP0 S0 => ?_⟩
    refine tFor_mk ⟨_, rfl, by decide, by decide, for_in (runs_rng 0 12) (fun i σ H' => (∃ t w3 w4 w5 w6, σ = [some (.ref a), some (.ref p), t, w3, w4, w5, w6]) ∧ Pen (100 * i) c H' p) ⟨⟨_, _, _, _, _, rfl⟩, hP0⟩ (fun _ _ _ _ => trivial) ?_ ?_⟩
    · rintro i σ H1 x ⟨⟨t, w3, w4, w5, w6, rfl⟩, hP1⟩ hi -
      simp only [List.length_map, List.length_range] at hi
      -- a word
      refine ⟨_, rfl, _, rfl, p, c, 8, _, rfl, hP1, by omega, by decide, (Sz.of_lt (n := 64) (by decide) (by decide)).mono (by decide), fun r1 H2 r10 r11 hP2 B2 => ?_⟩
      obtain ⟨r, rfl⟩ : ∃ r : Nat, r1 = r := ⟨r1.toNat, by omega⟩
      refine ⟨_, _, rfl, rfl, p, c, 1 + r, _, rfl, hP2, by omega, by omega, fun z H3 zl zc hP3 B3 => ?_⟩
      have hN : nameD (.str z) = true := name_ok (by omega) (by omega) zc
      have zlt : ∀ c ∈ z.cps.toList, c < 16 ^ 8 := fun c h => letter_lt (zc c h)
      have zS : z.length ≤ sizeLine := Nat.le_trans (by omega : z.length ≤ 100) (by decide)
      -- a place
      refine ⟨_, rfl, _, rfl, _, _, rfl, ⟨zS, rfl⟩, p, c, _, _, rfl, hP3, by omega, by omega, (Sz.of_lt (n := 64) (by simp only [Nat.reducePow]; omega) (by simp only [Nat.reducePow]; omega)).mono (by decide), fun at_ H4 a0 a1 hP4 B4 => ?_⟩
      -- a sign
      refine ⟨_, rfl, by show 13 ≤ sizeLine; decide, fun q hq hqs => ⟨p, c, _, _, _, rfl, hP4.same (same_new hq), by omega, .inl ⟨q, rfl, .inl (SqL.of (Hd.of (hP4.ne hq) upd_same))⟩, by decide, by decide, fun v hv H5 hP5 B5 => ?_⟩⟩
      obtain ⟨o, rfl, ho⟩ : ∃ o, v = .str o ∧ oddS o = true := by
        simp only [List.mem_cons, List.mem_nil_iff, or_false] at hv
        rcases hv with rfl | rfl | rfl | rfl | rfl | rfl | rfl | rfl | rfl | rfl | rfl | rfl | rfl <;> exact ⟨_, rfl, by decide⟩
      obtain ⟨ol, olt, oc, om, ob⟩ := oddS_of ho
      have cl : ∀ lo hi, (cutS z lo hi).length ≤ 8 := fun lo hi => Nat.le_trans cutS_len (by omega)
      have len2 : ∀ x y : Str, x.length ≤ 40 → y.length ≤ 40 → x.length + y.length ≤ sizeLine := fun x y h1 h2 => Nat.le_trans (by omega : _ ≤ 100) (by decide)
      have al : ∀ x y : Str, (x ++ y).length = x.length + y.length := strLen_append
      -- the word, and the word with the sign in it
      refine ⟨_, rfl, right_str hN (by omega) zlt fun H6 S6 => ⟨_, rfl, iteF ?_⟩⟩
      refine ⟨_, rfl, _, rfl, _, rfl, z, rfl, zS, _, rfl, _, _, rfl, rfl, len2 _ _ (Nat.le_trans (cl _ _) (by decide)) (by omega), _, rfl, _, rfl, _, _, rfl, rfl, _, rfl, z, rfl, zS, _, _, rfl, rfl, len2 _ _ (by rw [al]; have := cl none (some at_); omega) (Nat.le_trans (cl _ _) (by decide)), ?_⟩
      refine right_str (name_bad (c := oc) (by rw [cps_append, cps_append]; exact List.mem_append_left _ (List.mem_append_right _ om)) ob) (by rw [al, al]; have h1 := cl none (some at_); have h2 := cl (some (at_ + 1)) none; omega) (fun c hc => ?_) fun H7 S7 => ⟨_, rfl, iteF ?_⟩
      · rw [cps_append, cps_append, List.mem_append, List.mem_append] at hc
        rcases hc with (hc | hc) | hc
        · exact zlt c (cutS_mem hc)
        · exact olt c hc
        · exact zlt c (cutS_mem hc)
      have hP7 : Pen (100 * i + 20) c H7 p := (hP5.same (Same.trans S6 S7)).mono (by omega)
      -- a long word
      refine ⟨_, rfl, _, rfl, p, c, 30, _, rfl, hP7, by omega, by decide, (Sz.of_lt (n := 64) (by decide) (by decide)).mono (by decide), fun r2 H8 r20 r21 hP8 B8 => ?_⟩
      obtain ⟨g, rfl⟩ : ∃ g : Nat, r2 = g := ⟨r2.toNat, by omega⟩
      refine ⟨_, _, rfl, rfl, p, c, 9 + g, _, rfl, hP8, by omega, by omega, fun y H9 yl yc hP9 B9 => ?_⟩
      refine right_str (name_long (by omega)) (by omega) (fun c h => letter_lt (yc c h)) fun H10 S10 => ⟨_, rfl, iteF ?_⟩
      have hP10 : Pen (100 * i + 70) c H10 p := (hP9.same S10).mono (by omega)
      -- other values
      refine ⟨_, rfl, _, rfl, by show 1 ≤ sizeLine; decide, fun q1 hq1 => ⟨_, rfl, by show 1 ≤ sizeLine; decide, fun q2 hq2 hs2 q3 hq3 => ⟨_, rfl, upd_same, [(.inr z, .int 1)], rfl, by simp, by decide, fun q4 hq4 => ⟨by decide, fun q5 hq5 hs5 q6 hq6 => ⟨by show 12 ≤ sizeLine; decide, fun q7 hq7 hs7 => ?_⟩⟩⟩⟩⟩
      have e3 : upd (upd (upd (upd H10 q1 (.tup [.str z])) q2 (.lst [.str z])) q3 (.dK [])) q3 (.dK (mergeK [] [(.inr z, V.int 1)])) = upd (upd (upd H10 q1 (.tup [.str z])) q2 (.lst [.str z])) q3 (.dK [(.inr z, V.int 1)]) := by
        funext b
        by_cases h : b = q3
        · rw [h, upd_same, upd_same]; rfl
        · rw [upd_ne h, upd_ne h, upd_ne h]
      rw [e3] at hq4 hq5 hq6 hq7 ⊢
      have P1 : Pen (100 * i + 70) c (upd H10 q1 (.tup [.str z])) p := hP10.same (same_new hq1)
      have P2 : Pen (100 * i + 70) c (upd (upd H10 q1 (.tup [.str z])) q2 (.lst [.str z])) p := P1.same (same_new hq2)
      have R1 : Rd K (Hd p (upd H10 q1 (.tup [.str z]))) (.ref q1) (.tuple [.str z]) := .tup (.inl (.inl (Hd.of (hP10.ne hq1) upd_same))) (.cons (.str z) .nil)
      have R2 : Rd K (Hd p (upd (upd H10 q1 (.tup [.str z])) q2 (.lst [.str z]))) (.ref q2) (.list [.str z]) := .lst (SqL.of (Hd.of (P1.ne hq2) upd_same)) hs2 (.cons (.str z) .nil)
      have S2 := Same.hd (p := p) (same_new (u := .lst [.str z]) hq2)
      generalize upd (upd H10 q1 (.tup [.str z])) q2 (.lst [.str z]) = I2 at *
      have P3 : Pen (100 * i + 70) c (upd I2 q3 (.dK [(.inr z, V.int 1)])) p := P2.same (same_new hq3)
      have R3 : Rd K (Hd p (upd I2 q3 (.dK [(.inr z, V.int 1)]))) (.ref q3) (.dict [(.str z, .int 1)]) := .dct (ks := [.inr z]) (vs := [V.int 1]) (ds := [.int 1]) (Hd.of (P2.ne hq3) upd_same) rfl (.cons (.int 1) .nil)
      have S3 := Same.hd (p := p) (same_new (u := .dK [(.inr z, V.int 1)]) hq3)
      generalize upd I2 q3 (.dK [(.inr z, V.int 1)]) = I3 at *
      have P4 : Pen (100 * i + 70) c (upd I3 q4 (.tup [])) p := P3.same (same_new hq4)
      have R4 : Rd K (Hd p (upd I3 q4 (.tup []))) (.ref q4) (.tuple []) := .tup (.inl (.inl (Hd.of (P3.ne hq4) upd_same))) .nil
      have S4 := Same.hd (p := p) (same_new (u := .tup []) hq4)
      generalize upd I3 q4 (.tup []) = I4 at *
      have P5 : Pen (100 * i + 70) c (upd I4 q5 (.lst [])) p := P4.same (same_new hq5)
      have R5 : Rd K (Hd p (upd I4 q5 (.lst []))) (.ref q5) (.list []) := .lst (SqL.of (Hd.of (P4.ne hq5) upd_same)) hs5 .nil
      have S5 := Same.hd (p := p) (same_new (u := .lst []) hq5)
      generalize upd I4 q5 (.lst []) = I5 at *
      have P6 : Pen (100 * i + 70) c (upd I5 q6 (.dK [])) p := P5.same (same_new hq6)
      have R6 : Rd K (Hd p (upd I5 q6 (.dK []))) (.ref q6) (.dict []) := .dct (ks := []) (vs := []) (ds := []) (Hd.of (P5.ne hq6) upd_same) rfl .nil
      have S6 := Same.hd (p := p) (same_new (u := .dK []) hq6)
      generalize upd I5 q6 (.dK []) = I6 at *
      have P7 := P6.same (same_new (u := .lst [.non, .bl true, .bl false, .int 0, .int 7, .str (Str.ofString ""), .ref q1, .ref q2, .ref q3, .ref q4, .ref q5, .ref q6]) hq7)
      have RA : RdA K (Hd p I6) [.non, .bl true, .bl false, .int 0, .int 7, .str (Str.ofString ""), .ref q1, .ref q2, .ref q3, .ref q4, .ref q5, .ref q6] [.none, .bool true, .bool false, .int 0, .int 7, .str (Str.ofString ""), .tuple [.str z], .list [.str z], .dict [(.str z, .int 1)], .tuple [], .list [], .dict []] :=
        .cons .non (.cons (.bl _) (.cons (.bl _) (.cons (.int _) (.cons (.int _) (.cons (.str _) (.cons (R1.same (Same.trans S2 (Same.trans S3 (Same.trans S4 (Same.trans S5 S6))))) (.cons (R2.same (Same.trans S3 (Same.trans S4 (Same.trans S5 S6)))) (.cons (R3.same (Same.trans S4 (Same.trans S5 S6))) (.cons (R4.same (Same.trans S5 S6)) (.cons (R5.same S6) (.cons R6 .nil)))))))))))
      refine ⟨p, c, _, _, _, rfl, P7, by omega, .inl ⟨q7, rfl, .inl (SqL.of (Hd.of (P6.ne hq7) upd_same))⟩, by simp, by simp, fun v hv H11 hP11 B11 => ?_⟩
      obtain ⟨d, hd, rd⟩ := RdA.mem RA hv
      have rd' : Rd K H11 v d := rd.same (Same.trans (Same.hd (same_new hq7)) B11.sub)
      have hdd : nameD d = false ∧ strD d ≤ 1000000 ∧ Sm 1000 10 d := by
        have hz1 : Sm 82 5 (.str z) := .str zlt (by omega)
        simp only [List.mem_cons, List.mem_nil_iff, or_false] at hd
        rcases hd with rfl | rfl | rfl | rfl | rfl | rfl | rfl | rfl | rfl | rfl | rfl | rfl
        · exact ⟨rfl, Nat.zero_le _, .none⟩
        · exact ⟨rfl, Nat.zero_le _, .bool _⟩
        · exact ⟨rfl, Nat.zero_le _, .bool _⟩
        · exact ⟨rfl, Nat.zero_le _, .mono (Sm.int (n := 9) (k := 0) (by unfold Sz; decide) (by decide) (by decide)) (by decide) (by decide)⟩
        · exact ⟨rfl, Nat.zero_le _, .mono (Sm.int (n := 9) (k := 0) (by unfold Sz; decide) (by decide) (by decide)) (by decide) (by decide)⟩
        · exact ⟨by decide, by decide, .str (by decide) (by decide)⟩
        · exact ⟨rfl, Nat.zero_le _, (Sm.tuple (m := 100) (n := 82) (k := 5) (by intro e he; simp at he; rw [he]; exact hz1) (by simp)).mono (by decide) (by decide)⟩
        · exact ⟨rfl, Nat.zero_le _, (Sm.list (m := 100) (n := 82) (k := 5) (by intro e he; simp at he; rw [he]; exact hz1) (by simp)).mono (by decide) (by decide)⟩
        · exact ⟨rfl, Nat.zero_le _, (Sm.dict (m := 200) (n := 82) (k := 5) (by intro e he; simp at he; rw [he]; exact ⟨hz1, .mono (Sm.int (n := 9) (k := 0) (by unfold Sz; decide) (by decide) (by decide)) (by decide) (by decide)⟩) (by simp)).mono (by decide) (by decide)⟩
        · exact ⟨rfl, Nat.zero_le _, (Sm.tuple (m := 100) (n := 82) (k := 5) (by intro e he; simp at he) (by simp)).mono (by decide) (by decide)⟩
        · exact ⟨rfl, Nat.zero_le _, (Sm.list (m := 100) (n := 82) (k := 5) (by intro e he; simp at he) (by simp)).mono (by decide) (by decide)⟩
        · exact ⟨rfl, Nat.zero_le _, (Sm.dict (m := 200) (n := 82) (k := 5) (by intro e he; simp at he) (by simp)).mono (by decide) (by decide)⟩
      have lt2 : ∀ x y : Str, (∀ c ∈ x.cps.toList, c < 16 ^ 8) → (∀ c ∈ y.cps.toList, c < 16 ^ 8) → ∀ c ∈ (x ++ y).cps.toList, c < 16 ^ 8 := fun x y h1 h2 c hc => by
        rw [cps_append, List.mem_append] at hc
        exact hc.elim (h1 c) (h2 c)
      refine ⟨_, rfl, right_of rd' hdd.1 hdd.2.1 hdd.2.2 fun H12 S12 => ⟨_, rfl, iteF ?_⟩⟩
      refine ⟨_, rfl, _, rfl, _, _, rfl, rfl, len2 _ _ (by omega) (by omega), right_str (name_bad (c := oc) (by rw [cps_append]; exact List.mem_append_right _ om) ob) (by rw [al]; omega) (lt2 _ _ zlt olt) fun H13 S13 => ⟨_, rfl, iteF ?_⟩⟩
      refine ⟨_, rfl, _, rfl, _, _, rfl, rfl, len2 _ _ (by omega) (by omega), right_str (name_bad (c := oc) (by rw [cps_append]; exact List.mem_append_left _ om) ob) (by rw [al]; omega) (lt2 _ _ olt zlt) fun H14 S14 => ⟨_, rfl, iteF ?_⟩⟩
      exact ⟨⟨_, _, _, _, _, rfl⟩, (((hP11.same S12).same S13).same S14).mono (by omega)⟩
    · rintro σ H1 ⟨⟨t, w3, w4, w5, w6, rfl⟩, hP1⟩
      refine right_str (by decide) (by decide) (by decide) fun H2 S2 => ⟨_, rfl, iteT ?_⟩
      refine right_str (by decide) (by decide) (by decide) fun H3 S3 => ⟨_, rfl, iteT ?_⟩
      exact right_str (by decide) (by decide) (by decide) fun H4 S4 => k _
end
/-! ### what the top has written, each a fact that k_is finds -/
theorem all_mk {P : Program} {w : World} {K : PySem.W.Frag} {h : Heap} {mg : Str → Option Value} {fa : Addr} (X : K.In h) (G : h.Ns mainGlobals mg) (hfa : mg "law" = some (.ref fa))
    {f__law_draw f__law_pick f__law_letters f__law_pen f_is_name f_need_name f__law_heard f__law_right f_law f_BadName_init C_BadName C_ShiftError : Addr} {oc0 kV0 dc0 pm0 cd0 ct0 : Value} {od0 an0 : Option Addr} {sl0 : Array (Option Value)} {oc1 kV1 dc1 pm1 cd1 ct1 : Value} {od1 an1 : Option Addr} {sl1 : Array (Option Value)} {oc2 kV2 dc2 pm2 cd2 ct2 : Value} {od2 an2 : Option Addr} {sl2 : Array (Option Value)} {oc3 kV3 dc3 pm3 cd3 ct3 : Value} {od3 an3 : Option Addr} {sl3 : Array (Option Value)} {oc4 kV4 dc4 pm4 cd4 ct4 : Value} {od4 an4 : Option Addr} {sl4 : Array (Option Value)} {oc5 kV5 dc5 pm5 cd5 ct5 : Value} {od5 an5 : Option Addr} {sl5 : Array (Option Value)} {oc6 kV6 dc6 pm6 cd6 ct6 : Value} {od6 an6 : Option Addr} {sl6 : Array (Option Value)} {oc7 kV7 dc7 pm7 cd7 ct7 : Value} {od7 an7 : Option Addr} {sl7 : Array (Option Value)} {oc8 kV8 dc8 pm8 cd8 ct8 : Value} {od8 an8 : Option Addr} {sl8 : Array (Option Value)} {oc9 kV9 dc9 pm9 cd9 ct9 : Value} {od9 an9 : Option Addr} {sl9 : Array (Option Value)} {tk_LETTERS : Tok} {tk_LONGEST : Tok} {nm0 q0 : Str} {N0 : Addr} {bs0 bm0 sub0 : List Value} {sn0 : List Str} {ab0 : Bool} {col0 : Option Bool} {dd0 : Option Addr} {m00 m10 m20 m30 m50 : Option Value}
    (a_BadName : PySem.W.nsIn K mainGlobals "BadName" = some (some (.ref C_BadName)))
    (a_ShiftError : PySem.W.nsIn K mainGlobals "ShiftError" = some (some (.ref C_ShiftError)))
    (a__law_draw : PySem.W.nsIn K mainGlobals "_law_draw" = some (some (.ref f__law_draw)))
    (l__law_draw : K.lookup f__law_draw = some ⟨oc0, od0, .func (PySem.W.fnOf "_law_draw" "_law_draw" (defArgs s__law_draw) (defBody s__law_draw) (defScope s__law_draw) .none kV0 dc0 pm0 an0 cd0 ct0), sl0⟩)
    (c__law_draw : PySem.W.codeIn K cd0 "_law_draw" = true)
    (k__law_draw : PySem.W.keepIn K (.ref f__law_draw) = true)
    (a__law_pick : PySem.W.nsIn K mainGlobals "_law_pick" = some (some (.ref f__law_pick)))
    (l__law_pick : K.lookup f__law_pick = some ⟨oc1, od1, .func (PySem.W.fnOf "_law_pick" "_law_pick" (defArgs s__law_pick) (defBody s__law_pick) (defScope s__law_pick) .none kV1 dc1 pm1 an1 cd1 ct1), sl1⟩)
    (c__law_pick : PySem.W.codeIn K cd1 "_law_pick" = true)
    (k__law_pick : PySem.W.keepIn K (.ref f__law_pick) = true)
    (a__law_letters : PySem.W.nsIn K mainGlobals "_law_letters" = some (some (.ref f__law_letters)))
    (l__law_letters : K.lookup f__law_letters = some ⟨oc2, od2, .func (PySem.W.fnOf "_law_letters" "_law_letters" (defArgs s__law_letters) (defBody s__law_letters) (defScope s__law_letters) .none kV2 dc2 pm2 an2 cd2 ct2), sl2⟩)
    (c__law_letters : PySem.W.codeIn K cd2 "_law_letters" = true)
    (k__law_letters : PySem.W.keepIn K (.ref f__law_letters) = true)
    (a__law_pen : PySem.W.nsIn K mainGlobals "_law_pen" = some (some (.ref f__law_pen)))
    (l__law_pen : K.lookup f__law_pen = some ⟨oc3, od3, .func (PySem.W.fnOf "_law_pen" "_law_pen" (defArgs s__law_pen) (defBody s__law_pen) (defScope s__law_pen) .none kV3 dc3 pm3 an3 cd3 ct3), sl3⟩)
    (c__law_pen : PySem.W.codeIn K cd3 "_law_pen" = true)
    (k__law_pen : PySem.W.keepIn K (.ref f__law_pen) = true)
    (a_is_name : PySem.W.nsIn K mainGlobals "is_name" = some (some (.ref f_is_name)))
    (l_is_name : K.lookup f_is_name = some ⟨oc4, od4, .func (PySem.W.fnOf "is_name" "is_name" (defArgs s_is_name) (defBody s_is_name) (defScope s_is_name) .none kV4 dc4 pm4 an4 cd4 ct4), sl4⟩)
    (c_is_name : PySem.W.codeIn K cd4 "is_name" = true)
    (k_is_name : PySem.W.keepIn K (.ref f_is_name) = true)
    (a_need_name : PySem.W.nsIn K mainGlobals "need_name" = some (some (.ref f_need_name)))
    (l_need_name : K.lookup f_need_name = some ⟨oc5, od5, .func (PySem.W.fnOf "need_name" "need_name" (defArgs s_need_name) (defBody s_need_name) (defScope s_need_name) .none kV5 dc5 pm5 an5 cd5 ct5), sl5⟩)
    (c_need_name : PySem.W.codeIn K cd5 "need_name" = true)
    (k_need_name : PySem.W.keepIn K (.ref f_need_name) = true)
    (a__law_heard : PySem.W.nsIn K mainGlobals "_law_heard" = some (some (.ref f__law_heard)))
    (l__law_heard : K.lookup f__law_heard = some ⟨oc6, od6, .func (PySem.W.fnOf "_law_heard" "_law_heard" (defArgs s__law_heard) (defBody s__law_heard) (defScope s__law_heard) .none kV6 dc6 pm6 an6 cd6 ct6), sl6⟩)
    (c__law_heard : PySem.W.codeIn K cd6 "_law_heard" = true)
    (k__law_heard : PySem.W.keepIn K (.ref f__law_heard) = true)
    (a__law_right : PySem.W.nsIn K mainGlobals "_law_right" = some (some (.ref f__law_right)))
    (l__law_right : K.lookup f__law_right = some ⟨oc7, od7, .func (PySem.W.fnOf "_law_right" "_law_right" (defArgs s__law_right) (defBody s__law_right) (defScope s__law_right) .none kV7 dc7 pm7 an7 cd7 ct7), sl7⟩)
    (c__law_right : PySem.W.codeIn K cd7 "_law_right" = true)
    (k__law_right : PySem.W.keepIn K (.ref f__law_right) = true)
    (a_law : PySem.W.nsIn K mainGlobals "law" = some (some (.ref f_law)))
    (l_law : K.lookup f_law = some ⟨oc8, od8, .func (PySem.W.fnOf "law" "law" (defArgs s_law) (defBody s_law) (defScope s_law) .none kV8 dc8 pm8 an8 cd8 ct8), sl8⟩)
    (c_law : PySem.W.codeIn K cd8 "law" = true)
    (k_law : PySem.W.keepIn K (.ref f_law) = true)
    (a_BadName_init : PySem.W.findIn K (.ref C_BadName) "__init__" = some (some (.ref f_BadName_init)))
    (l_BadName_init : K.lookup f_BadName_init = some ⟨oc9, od9, .func (PySem.W.fnOf "__init__" "BadName.__init__" (defArgs s_BadName_init) (defBody s_BadName_init) (defScope s_BadName_init) .none kV9 dc9 pm9 an9 cd9 ct9), sl9⟩)
    (c_BadName_init : PySem.W.codeIn K cd9 "BadName.__init__" = true)
    (k_BadName_init : PySem.W.keepIn K (.ref f_BadName_init) = true)
    (n_abs : PySem.W.nsIn K mainGlobals "abs" = some none)
    (n_all : PySem.W.nsIn K mainGlobals "all" = some none)
    (n_int : PySem.W.nsIn K mainGlobals "int" = some none)
    (n_isinstance : PySem.W.nsIn K mainGlobals "isinstance" = some none)
    (n_len : PySem.W.nsIn K mainGlobals "len" = some none)
    (n_list : PySem.W.nsIn K mainGlobals "list" = some none)
    (n_range : PySem.W.nsIn K mainGlobals "range" = some none)
    (n_repr : PySem.W.nsIn K mainGlobals "repr" = some none)
    (n_str : PySem.W.nsIn K mainGlobals "str" = some none)
    (a_LETTERS : PySem.W.nsIn K mainGlobals "LETTERS" = some (some (.str "abcdefghijklmnopqrstuvwxyz" tk_LETTERS)))
    (a_LONGEST : PySem.W.nsIn K mainGlobals "LONGEST" = some (some (.int (8) tk_LONGEST)))
    (h1_BadName : (PySem.W.clsIn K C_BadName).isSome = true)
    (h2_BadName : PySem.W.findIn K (.ref C_BadName) "__getattribute__" = some (some (.builtin "BaseException.__getattribute__")))
    (h3_BadName : PySem.W.findIn K (.ref C_BadName) "__getattr__" = some none)
    (h4_BadName : PySem.W.subIn K (.ref C_BadName) (.type "BaseException") = some true)
    (h5_BadName : PySem.W.findIn K (.ref C_BadName) "__class__" = some (some (.builtin "object.__class__")))
    (h6_BadName : PySem.W.mroIn K C_BadName (.type "object") = some true)
    (h7_BadName : PySem.W.typeIn K (.ref C_BadName) = some (.type "type"))
    (h1_ShiftError : (PySem.W.clsIn K C_ShiftError).isSome = true)
    (h2_ShiftError : PySem.W.findIn K (.ref C_ShiftError) "__getattribute__" = some (some (.builtin "BaseException.__getattribute__")))
    (h3_ShiftError : PySem.W.findIn K (.ref C_ShiftError) "__getattr__" = some none)
    (h4_ShiftError : PySem.W.subIn K (.ref C_ShiftError) (.type "BaseException") = some true)
    (h5_ShiftError : PySem.W.findIn K (.ref C_ShiftError) "__class__" = some (some (.builtin "object.__class__")))
    (h6_ShiftError : PySem.W.mroIn K C_ShiftError (.type "object") = some true)
    (h7_ShiftError : PySem.W.typeIn K (.ref C_ShiftError) = some (.type "type"))
    (x1_BadName : K.lookup C_BadName = some (excClassObj nm0 q0 C_BadName N0 bs0 bm0 true sn0 sub0 ab0 col0 dd0 m00 m10 m20 m30 m50 "ValueError.__new__"))
    (x2_BadName : PySem.HandSPX.refsVE bm0 = true)
    (x3_BadName : PySem.W.findIn K (.ref C_BadName) "__setattr__" = some (some (.builtin "object.__setattr__")))
    (x4_BadName : PySem.W.keepIn K (.ref C_BadName) = true)
    (x5_BadName : PySem.W.hasDictIn K C_BadName = true)
    (x6_BadName : PySem.W.typeIn K (.ref f_BadName_init) = some (.type "function"))
    (no_BadName_value : PySem.W.findIn K (.ref C_BadName) "value" = some none)
    (sb_BadName_ShiftError : PySem.W.subIn K (.ref C_BadName) (.ref C_ShiftError) = some true)
    (s1 : PySem.W.specialIn K (.builtin "object.__class__") "__get__" = some (some (.builtin "getset_descriptor.__get__")))
    (s2 : PySem.W.takesIn K (.builtin "object.__class__") = some true) :
    ∃ fd : FuncData, (∀ (s : Shared) (u : Value), BindsTo s fd ⟨[u], []⟩ [("_law_script", u)]) ∧ ∀ base : Heap, K.In base → base.Ns mainGlobals mg → FnG P w K mg base 6 fa fd ["_law_script"] (spLaw K) := by
  have e : f_law = fa := by
    have z := (PySem.W.mg_of X G a_law).symm.trans hfa
    cases z
    rfl
  subst e
  have T : Txt K mg { f__law_draw := f__law_draw, d__law_draw := (PySem.W.fnOf "_law_draw" "_law_draw" (defArgs s__law_draw) (defBody s__law_draw) (defScope s__law_draw) .none kV0 dc0 pm0 an0 cd0 ct0), f__law_pick := f__law_pick, d__law_pick := (PySem.W.fnOf "_law_pick" "_law_pick" (defArgs s__law_pick) (defBody s__law_pick) (defScope s__law_pick) .none kV1 dc1 pm1 an1 cd1 ct1), f__law_letters := f__law_letters, d__law_letters := (PySem.W.fnOf "_law_letters" "_law_letters" (defArgs s__law_letters) (defBody s__law_letters) (defScope s__law_letters) .none kV2 dc2 pm2 an2 cd2 ct2), f__law_pen := f__law_pen, d__law_pen := (PySem.W.fnOf "_law_pen" "_law_pen" (defArgs s__law_pen) (defBody s__law_pen) (defScope s__law_pen) .none kV3 dc3 pm3 an3 cd3 ct3), f_is_name := f_is_name, d_is_name := (PySem.W.fnOf "is_name" "is_name" (defArgs s_is_name) (defBody s_is_name) (defScope s_is_name) .none kV4 dc4 pm4 an4 cd4 ct4), f_need_name := f_need_name, d_need_name := (PySem.W.fnOf "need_name" "need_name" (defArgs s_need_name) (defBody s_need_name) (defScope s_need_name) .none kV5 dc5 pm5 an5 cd5 ct5), f__law_heard := f__law_heard, d__law_heard := (PySem.W.fnOf "_law_heard" "_law_heard" (defArgs s__law_heard) (defBody s__law_heard) (defScope s__law_heard) .none kV6 dc6 pm6 an6 cd6 ct6), f__law_right := f__law_right, d__law_right := (PySem.W.fnOf "_law_right" "_law_right" (defArgs s__law_right) (defBody s__law_right) (defScope s__law_right) .none kV7 dc7 pm7 an7 cd7 ct7), f_law := f_law, d_law := (PySem.W.fnOf "law" "law" (defArgs s_law) (defBody s_law) (defScope s_law) .none kV8 dc8 pm8 an8 cd8 ct8), f_BadName_init := f_BadName_init, d_BadName_init := (PySem.W.fnOf "__init__" "BadName.__init__" (defArgs s_BadName_init) (defBody s_BadName_init) (defScope s_BadName_init) .none kV9 dc9 pm9 an9 cd9 ct9), C_BadName := C_BadName, C_ShiftError := C_ShiftError } :=
    { F__law_draw := fun_mk (st := s__law_draw) l__law_draw c__law_draw k__law_draw,
      F__law_pick := fun_mk (st := s__law_pick) l__law_pick c__law_pick k__law_pick,
      F__law_letters := fun_mk (st := s__law_letters) l__law_letters c__law_letters k__law_letters,
      F__law_pen := fun_mk (st := s__law_pen) l__law_pen c__law_pen k__law_pen,
      F_is_name := fun_mk (st := s_is_name) l_is_name c_is_name k_is_name,
      F_need_name := fun_mk (st := s_need_name) l_need_name c_need_name k_need_name,
      F__law_heard := fun_mk (st := s__law_heard) l__law_heard c__law_heard k__law_heard,
      F__law_right := fun_mk (st := s__law_right) l__law_right c__law_right k__law_right,
      F_law := fun_mk (st := s_law) l_law c_law k_law,
      F_BadName_init := fun_mk (st := s_BadName_init) l_BadName_init c_BadName_init k_BadName_init,
      m__law_draw := PySem.W.mg_of X G a__law_draw,
      m__law_pick := PySem.W.mg_of X G a__law_pick,
      m__law_letters := PySem.W.mg_of X G a__law_letters,
      m__law_pen := PySem.W.mg_of X G a__law_pen,
      m_is_name := PySem.W.mg_of X G a_is_name,
      m_need_name := PySem.W.mg_of X G a_need_name,
      m__law_heard := PySem.W.mg_of X G a__law_heard,
      m__law_right := PySem.W.mg_of X G a__law_right,
      m_law := PySem.W.mg_of X G a_law,
      n_abs := PySem.W.mg_none_of X G n_abs,
      n_all := PySem.W.mg_none_of X G n_all,
      n_int := PySem.W.mg_none_of X G n_int,
      n_isinstance := PySem.W.mg_none_of X G n_isinstance,
      n_len := PySem.W.mg_none_of X G n_len,
      n_list := PySem.W.mg_none_of X G n_list,
      n_range := PySem.W.mg_none_of X G n_range,
      n_repr := PySem.W.mg_none_of X G n_repr,
      n_str := PySem.W.mg_none_of X G n_str,
      c_LETTERS := ⟨_, PySem.W.mg_of X G a_LETTERS, ⟨_, rfl⟩⟩,
      c_LONGEST := ⟨_, PySem.W.mg_of X G a_LONGEST, ⟨_, rfl⟩⟩,
      g_BadName := PySem.W.mg_of X G a_BadName,
      x_BadName := ⟨h1_BadName, h2_BadName, h3_BadName, h4_BadName, h5_BadName, s1, s2, h6_BadName⟩,
      g_ShiftError := PySem.W.mg_of X G a_ShiftError,
      x_ShiftError := ⟨h1_ShiftError, h2_ShiftError, h3_ShiftError, h4_ShiftError, h5_ShiftError, s1, s2, h6_ShiftError⟩,
      o_BadName := ⟨⟨_, _, _, _, _, _, _, _, _, _, _, _, _, _, _, x1_BadName, x2_BadName⟩, x3_BadName, h4_BadName, h7_BadName, x4_BadName⟩,
      xf_BadName := ⟨h2_BadName, h3_BadName, h4_BadName, x5_BadName⟩,
      i_BadName := a_BadName_init,
      t_BadName := x6_BadName,
      no_BadName_value := no_BadName_value,
      ex_BadName := exm_of h4_ShiftError h1_ShiftError h7_ShiftError sb_BadName_ShiftError }
  exact ⟨_, fun s u => .of_eq rfl, fun base _ _ => ok_law (P := P) (w := w) T⟩
end HS
open PySem PySem.W PyProof.Rows
set_option maxRecDepth 100000 in
set_option maxHeartbeats 0 in
theorem PySem.Challenge.cw_holeshift_k02_names_told_holds : PySem.Challenge.rw_holeshift_k02_names_told.Holds := by
  w_on; o_law; k_head; (case hw => w_witness2)
  k_fill
  refine HS.walk_G (l := PySem.Challenge.rw_holeshift_k02_names_told) (n := 63) (k := 6) (x := "_law_script") (sp := fun K => HS.spLaw K) rfl (by decide) rfl (by decide) (fun w h Y => PySem.W.kIn_of Y) ?F ?S
  case F =>
    intro w mg fa h KX G hmg
    refine' HS.all_mk KX G hmg ?a_BadName ?a_ShiftError ?a__law_draw ?l__law_draw ?c__law_draw ?k__law_draw ?a__law_pick ?l__law_pick ?c__law_pick ?k__law_pick ?a__law_letters ?l__law_letters ?c__law_letters ?k__law_letters ?a__law_pen ?l__law_pen ?c__law_pen ?k__law_pen ?a_is_name ?l_is_name ?c_is_name ?k_is_name ?a_need_name ?l_need_name ?c_need_name ?k_need_name ?a__law_heard ?l__law_heard ?c__law_heard ?k__law_heard ?a__law_right ?l__law_right ?c__law_right ?k__law_right ?a_law ?l_law ?c_law ?k_law ?a_BadName_init ?l_BadName_init ?c_BadName_init ?k_BadName_init ?n_abs ?n_all ?n_int ?n_isinstance ?n_len ?n_list ?n_range ?n_repr ?n_str ?a_LETTERS ?a_LONGEST ?h1_BadName ?h2_BadName ?h3_BadName ?h4_BadName ?h5_BadName ?h6_BadName ?h7_BadName ?h1_ShiftError ?h2_ShiftError ?h3_ShiftError ?h4_ShiftError ?h5_ShiftError ?h6_ShiftError ?h7_ShiftError ?x1_BadName ?x2_BadName ?x3_BadName ?x4_BadName ?x5_BadName ?x6_BadName ?no_BadName_value ?sb_BadName_ShiftError ?s1 ?s2
    case a_BadName => first | k_is | rfl
    case a_ShiftError => first | k_is | rfl
    case a__law_draw => first | k_is | rfl
    case l__law_draw => first | k_is | rfl
    case c__law_draw => first | k_is | rfl
    case k__law_draw => first | k_is | rfl
    case a__law_pick => first | k_is | rfl
    case l__law_pick => first | k_is | rfl
    case c__law_pick => first | k_is | rfl
    case k__law_pick => first | k_is | rfl
    case a__law_letters => first | k_is | rfl
    case l__law_letters => first | k_is | rfl
    case c__law_letters => first | k_is | rfl
    case k__law_letters => first | k_is | rfl
    case a__law_pen => first | k_is | rfl
    case l__law_pen => first | k_is | rfl
    case c__law_pen => first | k_is | rfl
    case k__law_pen => first | k_is | rfl
    case a_is_name => first | k_is | rfl
    case l_is_name => first | k_is | rfl
    case c_is_name => first | k_is | rfl
    case k_is_name => first | k_is | rfl
    case a_need_name => first | k_is | rfl
    case l_need_name => first | k_is | rfl
    case c_need_name => first | k_is | rfl
    case k_need_name => first | k_is | rfl
    case a__law_heard => first | k_is | rfl
    case l__law_heard => first | k_is | rfl
    case c__law_heard => first | k_is | rfl
    case k__law_heard => first | k_is | rfl
    case a__law_right => first | k_is | rfl
    case l__law_right => first | k_is | rfl
    case c__law_right => first | k_is | rfl
    case k__law_right => first | k_is | rfl
    case a_law => first | k_is | rfl
    case l_law => first | k_is | rfl
    case c_law => first | k_is | rfl
    case k_law => first | k_is | rfl
    case a_BadName_init => first | k_is | rfl
    case l_BadName_init => first | k_is | rfl
    case c_BadName_init => first | k_is | rfl
    case k_BadName_init => first | k_is | rfl
    case n_abs => first | k_is | rfl
    case n_all => first | k_is | rfl
    case n_int => first | k_is | rfl
    case n_isinstance => first | k_is | rfl
    case n_len => first | k_is | rfl
    case n_list => first | k_is | rfl
    case n_range => first | k_is | rfl
    case n_repr => first | k_is | rfl
    case n_str => first | k_is | rfl
    case a_LETTERS => first | k_is | rfl
    case a_LONGEST => first | k_is | rfl
    case h1_BadName => first | k_is | rfl
    case h2_BadName => first | k_is | rfl
    case h3_BadName => first | k_is | rfl
    case h4_BadName => first | k_is | rfl
    case h5_BadName => first | k_is | rfl
    case h6_BadName => first | k_is | rfl
    case h7_BadName => first | k_is | rfl
    case h1_ShiftError => first | k_is | rfl
    case h2_ShiftError => first | k_is | rfl
    case h3_ShiftError => first | k_is | rfl
    case h4_ShiftError => first | k_is | rfl
    case h5_ShiftError => first | k_is | rfl
    case h6_ShiftError => first | k_is | rfl
    case h7_ShiftError => first | k_is | rfl
    case x1_BadName => first | k_is | rfl
    case x2_BadName => decide +kernel
    case x3_BadName => first | k_is | rfl
    case x4_BadName => first | k_is | rfl
    case x5_BadName => first | k_is | rfl
    case x6_BadName => first | k_is | rfl
    case no_BadName_value => first | k_is | rfl
    case sb_BadName_ShiftError => first | k_is | rfl
    case s1 => first | k_is | rfl
    case s2 => first | k_is | rfl
  case S =>
    intro K H a ns hl hb E
    exact ⟨a, ns, rfl, E.scr, hl, fun z m => HS.Sz.of_bits (hb z m), fun _ => rfl⟩

