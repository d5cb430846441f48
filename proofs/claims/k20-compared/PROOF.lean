import PyProof.Rows.All
import Wide.All
import OpenK.AllK
import Wide.FinOn
import HandS.ForMost
import HandS.Exc
import HandS.ExcInit
import HandS.ExcIs
import HandS.IsInst
import HandS.WordsExc
import HandS.Wide
import KE.KStar
import PyProof.ReprRoads
import HandS.ExcField
import KE.KExcIs
import HandS.Dict
import HandS.EndBits
import HandS.Walk
import HandS.Flow
import HandS.Codes
import HandS.Iter
import HandS.Comp
import PyProof.FitsInt
import HandS.Text
import HandS.Property
import HandS.ClsMeth
import HandS.Defaults
import KE.KOpsOwn
import OpenK.KOps
import HandS.ExcOwn
import HandS.ExcCtx
import KE.KFmtOwn
import HandS.NamedTupSort
import HandS.Records
import HandS.FStr
import KE.KCallOwn
import PyProof.P3Eq
import PySem.Challenge.RW_holeshift_k20_amounts_compared
set_option Elab.async false
set_option linter.all false
set_option maxRecDepth 100000
set_option maxHeartbeats 4000000
/-! G0: calls that know that no repr is running (FnG), exceptions kept behind their except suite, repr. -/
namespace HS
open PySem PySem.Spec PyProof.Rows L2

/-! ### calls -/
/-- room for k calls, and no repr under way -/
structure Rm (k : Nat) (A : Around) : Prop where
  room : Room k A
  gd : A.guards = some []
theorem Rm.mono {j k : Nat} {A : Around} (r : Rm k A) (h : j ≤ k) : Rm j A := ⟨r.room.mono h, r.gd⟩
theorem Rm.deeper {k : Nat} {A : Around} (r : Rm (k + 1) A) (env : Env) : Rm k (A.deeper env) := ⟨r.room.deeper env, r.gd⟩
theorem Rm.make {k : Nat} {A : Around} (r : Rm (k + 1) A) (C : Addr) (us : List Value) (kw : List (Str × Value)) : Rm k (A.under (.builtin "type.__call__" ⟨.ref C :: us, kw⟩)) :=
  ⟨r.room.make C us kw, by simp [Around.under, Code.guards, Code.isGuard, guardIds, pushGuards, r.gd]⟩

/-- what a def keeps: for its bound arguments, under a room k -/
structure FnG (P : Program) (w : World) (K : PySem.W.Frag) (mg : Str → Option Value) (base : Heap) (k : Nat) (f : Addr) (fd : FuncData) (ps : List Str) (sp : Sp) : Prop where
  len : ∀ vs H Q E, sp vs H Q E → vs.length = ps.length
  run : ∀ (A : Around) (outer : List Env) (s : Shared) (H : Hp) (args : Args) (us : List Value) (vs : List V) (Q : VK) (E : XK), Rm k A → Env0 P w K mg base A outer s H →
    BindsTo s fd args (ps.zip us) → Vals vs us → sp vs H Q E → codeAny (model P w) A (.call (.ref f) args) (CR (L2.CX P w) outer P w H s Q E) s
section
variable {P : Program} {w : World} {K : PySem.W.Frag} {mg : Str → Option Value} {base : Heap} {k : Nat} {f : Addr} {fd : FuncData} {ps : List Str} {sp : Sp}
theorem FnG.of (F : FnOk P w K mg base (L2.CX P w) k f fd ps sp) : FnG P w K mg base k f fd ps sp := ⟨F.len, fun A outer s H args us vs Q E hr => F.run A outer s H args us vs Q E hr.room⟩
theorem FnG.mono {j : Nat} (F : FnG P w K mg base j f fd ps sp) (h : j ≤ k) : FnG P w K mg base k f fd ps sp := ⟨F.len, fun A outer s H args us vs Q E hr => F.run A outer s H args us vs Q E (hr.mono h)⟩
theorem FnG.imp {sp' : Sp} (F : FnG P w K mg base k f fd ps sp) (h : ∀ vs H Q E, sp' vs H Q E → sp vs H Q E) : FnG P w K mg base k f fd ps sp' :=
  ⟨fun vs H Q E q => F.len vs H Q E (h _ _ _ _ q), fun A outer s H args us vs Q E hr he hb hv hs => F.run A outer s H args us vs Q E hr he hb hv (h _ _ _ _ hs)⟩
/-- a def by its body -/
theorem fnG {name qual : Str} {params : Arguments} {body : List Stmt} {scope : Scope} {dV kV doc pm cdv ct oc : Value} {an od : Option Addr} {osl : Array (Option Value)} {N : List Str}
    (lk : K.lookup f = some ⟨oc, od, .func (PySem.W.fnOf name qual params body scope dV kV doc pm an cdv ct), osl⟩) (hcd : PySem.W.codeIn K cdv qual = true) (S : FnScope N ps scope) (len : ∀ vs H Q E, sp vs H Q E → vs.length = ps.length)
    (hbody : ∀ (A : Around) (outer : List Env) (s : Shared) (H : Hp) (vs : List V) (Q : VK) (E : XK), Rm k (A.deeper (envOfC qual scope s.heap.objs.size f cdv)) → sp vs H Q E →
      ∃ t, PSs (cxOf (L2.CX P w) P w K mg base N qual scope f cdv A outer s H E) body t ∧ t { nx := fun _ H' => Q .non H', rt := Q } (start N vs) H) :
    FnG P w K mg base (k + 1) f (PySem.W.fnOf name qual params body scope dV kV doc pm an cdv ct) ps sp := by
  constructor
  · exact len
  intro A outer s H args us vs Q E hr e0 hb r hsp
  have keepB : ∀ b o, base.get? b = some o → s.heap.get? b = some o := fun b o e => (e0.bs b o e).1
  have KX : K.In s.heap := e0.mod.kin.keeps keepB
  have hkind : ∀ y ∈ ps.zip us, scope.names.lookup y.1 = some .local ∨ (scope.names.lookup y.1 = some .cell ∧ ((cellsFrom (s.heap.objs.size + 1) scope.names []).lookup y.1).isSome = true) := by
    intro y hy
    have hm : y.1 ∈ ps := (List.of_mem_zip (a := y.1) (b := y.2) hy).1
    rcases S.par y.1 hm with q | q
    · exact .inl q
    · exact .inr ⟨q, PySem.W.cellsFrom_some _ _ _ (.inl q)⟩
  refine codeAny_call_function hr.room.depth (KX _ _ lk) rfl S.co S.gen rfl (PySem.W.codeRec_of KX hcd) (hb _ _ _ _ (wpAny_newFunctionEnv_cells S.kind hkind ?_))
  intro env he s1 x
  subst he
  constructor
  · exact (e0.mod.nolimit.keeps keepB).keeps x.toInCall.keep
  obtain ⟨t, ht, hq⟩ := hbody A outer s H vs Q E (hr.deeper _) hsp
  have I : Inv (cxOf (L2.CX P w) P w K mg base N qual scope f cdv A outer s H E) [] (start N vs) H s1 := inv_start S hr.room.hd e0 (len _ _ _ _ hsp) r x
  refine codeAny_func (wpAny_mono (ht.run [] s1 _ H _ I hq) ?_ fun _ _ z => z)
  intro fl s' hs
  cases fl with
  | ret u =>
    obtain ⟨v, _, H', J, rv, q⟩ := hs
    exact ⟨v, H', J.os, J.bare, J.base, J.hok, rv, q⟩
  | next =>
    obtain ⟨_, H', J, q⟩ := hs
    exact ⟨.non, H', J.os, J.bare, J.base, J.hok, rfl, q⟩
  | brk => exact hs.elim fun _ z => z.elim fun _ z => z.2.elim
  | cont => exact hs.elim fun _ z => z.elim fun _ z => z.2.elim
/-- .. of the text as it stands behind the top -/
theorem Fun.okG {x qual : Str} {st : Stmt} {N : List Str} (F : Fun K x qual st f fd) (S : FnScope N ps (defScope st)) (len : ∀ vs H Q E, sp vs H Q E → vs.length = ps.length)
    (hbody : ∀ (cdv : Value) (A : Around) (outer : List Env) (s : Shared) (H : Hp) (vs : List V) (Q : VK) (E : XK), Rm k (A.deeper (envOfC qual (defScope st) s.heap.objs.size f cdv)) → sp vs H Q E →
      ∃ t, PSs (cxOf (L2.CX P w) P w K mg base N qual (defScope st) f cdv A outer s H E) (defBody st) t ∧ t { nx := fun _ H' => Q .non H', rt := Q } (start N vs) H) :
    FnG P w K mg base (k + 1) f fd ps sp := by
  obtain ⟨oc, od, kV, doc, pm, an, cdv, ct, osl, rfl, lk, hcd⟩ := F.ex
  exact fnG lk hcd S len fun A outer s H vs Q E => hbody cdv A outer s H vs Q E
end
/-- no exception is wished for -/
def noW : WX := fun _ _ _ _ => False
theorem takesF {X : Cx} : Takes X noW := fun u s' x => by
  obtain ⟨a, B, sI, pins, σ, H, cls, d, _, _, _, _, _, _, _, _, z⟩ := x
  exact z.elim
/-- no exception is wished for: none comes -/
theorem passE0 {X : Cx} : Passes (L2.CX X.prog X.w) X (fun _ _ _ => False) := by
  intro pins σ H s e s' I h
  obtain ⟨a, B, H', cls, d, _, _, _, _, _, _, _, h⟩ := h
  exact h.elim
section
variable {X : Cx} {pins : List (Addr × Obj)} {σ : L2.St} {H : Hp} {s s' : Shared} {W : WX} {Q : VK} {k : Nat} {f : Addr} {fd : FuncData} {ps ks : List Str} {sp : Sp}
/-- what is wished of an exception, at these slots -/
abbrev atW (W : WX) (σ : L2.St) : XK := fun cls d H' => W cls d σ H'
/-- what a call leaves is a state of ours, or an exception that is taken -/
theorem back_ok {r : Result} (tk : Takes X W) (I : Inv X pins σ H s) (hq : CR (L2.CX X.prog X.w) X.stack X.prog X.w H s Q (atW W σ) r s') :
    (match r with | .ok (.ret u) => EP X pins σ Q u s' | .ok _ => False | .error e => X.xe e s') := by
  cases r with
  | error e => exact tk e s' (XE.of_call I (fun _ _ _ h => h) hq)
  | ok fl => cases fl with
    | ret u => exact I.after hq
    | next => exact hq
    | brk => exact hq
    | cont => exact hq
/-- the callee runs; gs: all its parameters' values -/
theorem runG {us gs : List Value} {kw : List (Str × Value)} {vs : List V} (F : FnG X.prog X.w X.K X.mg X.base k f fd ps sp) (hr : Rm k X.A) (tk : Takes X W)
    (I : Inv X pins σ H s) (hb : BindsTo s fd ⟨us, kw⟩ (ps.zip gs)) (r : Vals vs gs) (h : sp vs H Q (atW W σ)) : wpAny (model X.prog X.w) X.A (call (.ref f) us kw) (EP X pins σ Q) X.xe s := by
  refine wpAny_call (codeAny_mono (F.run X.A X.stack s H ⟨us, kw⟩ gs vs Q _ hr I.env0 hb r h) fun r s' hq => ?_)
  have z := back_ok tk I hq
  cases r with
  | error e => exact z
  | ok fl => cases fl <;> exact z
variable {e : Expr} {es : List Expr} {kws : List Keyword} {t ta : TA} {ds : List Value} {dvs : List V} {x : Str} {p pos : Pos}
/-- f(..): the written arguments, then the defaults -/
def tG (sp : Sp) (dvs : List V) (W : WX) (t : TA) : TE := fun σ H Q => t σ H fun vs H1 => sp (vs ++ dvs) H1 Q (atW W σ)
/-- f(e, ..): all positional; dvs the defaults that fill up -/
theorem pc_G (F : FnG X.prog X.w X.K X.mg X.base k f fd ps sp) (hr : Rm k X.A) (tk : Takes X W) (hm : X.mg x = some (.ref f)) (hk : PySem.W.keepIn X.K (.ref f) = true) (hb : Binds X.K fd ps ds) (hd : Vals dvs ds)
    (ha : PA X (e :: es) t) (hg : Gl X x := by rfl) (hdb : (x == ("__debug__" : Str)) = false := by decide)
    (he : starEach (e :: es) X.env = (false, eval e X.env) :: starEach es X.env := by rfl) (hpl : (backTo pos (starEach es X.env)).any (·.1) = false := by rfl) :
    PE X (.Call (.Name x p) (e :: es) [] pos) (tG sp dvs W t) := by
  constructor
  intro pins s σ H Q I h
  refine wpAny_Call_Name_kw (ld_glob I hg hm (PySem.W.callWith_K (h₀ := X.base) I.ok.mod.kin hk (thn (ha.run pos pins s σ H _ I h) ?_) he hpl) hdb)
  rintro us s1 ⟨vs, H1, I1, r, q⟩
  have r2 := r.append hd
  have hl : (us ++ ds).length = ps.length := by rw [← r2.length]; exact F.len _ _ _ _ q
  exact ⟨I1.kIn, runG F hr tk I1 (hb s1 us I1.kIn hl) r2 q⟩
theorem pc_G0 (F : FnG X.prog X.w X.K X.mg X.base k f fd ps sp) (hr : Rm k X.A) (tk : Takes X W) (hm : X.mg x = some (.ref f)) (hk : PySem.W.keepIn X.K (.ref f) = true) (hb : Binds X.K fd ps ds) (hd : Vals dvs ds)
    (hg : Gl X x := by rfl) (hdb : (x == ("__debug__" : Str)) = false := by decide) : PE X (.Call (.Name x p) [] [] pos) (tG sp dvs W tNil) := by
  constructor
  intro pins s σ H Q I h
  have hl : ([] ++ ds).length = ps.length := by rw [List.nil_append, ← hd.length]; exact F.len _ _ _ _ h
  exact wpAny_Call_Name_kw (ld_glob I hg hm (PySem.W.callWith_K0 I.kIn hk (runG (us := []) (gs := ds) F hr tk I (hb s [] I.kIn hl) hd h)) hdb)
/-- how a call binds: n positional values, keywords named ks; g puts all parameters in order -/
structure Bnd (K : PySem.W.Frag) (fd : FuncData) (ps : List Str) (n : Nat) (ks : List Str) (g : List Value → List Value → List Value) (gV : List V → List V → List V) : Prop where
  to : ∀ (s : Shared) (us ws : List Value), K.In s.heap → us.length = n → ws.length = ks.length → BindsTo s fd ⟨us, ks.zip ws⟩ (ps.zip (g us ws))
  rel : ∀ {vs : List V} {us : List Value} {zs : List V} {ws : List Value}, vs.length = n → zs.length = ks.length → Vals vs us → Vals zs ws → Vals (gV vs zs) (g us ws)
def tGW (n m : Nat) (sp : Sp) (gV : List V → List V → List V) (W : WX) (t tk : TA) : TE := fun σ H Q => t σ H fun vs H1 => tk σ H1 fun zs H2 => vs.length = n ∧ zs.length = m ∧ sp (gV vs zs) H2 Q (atW W σ)
variable {n : Nat} {g : List Value → List Value → List Value} {gV : List V → List V → List V}
/-- f(e, .., k = v, ..) -/
theorem pc_GW (F : FnG X.prog X.w X.K X.mg X.base k f fd ps sp) (hr : Rm k X.A) (tk : Takes X W) (hm : X.mg x = some (.ref f)) (hk : PySem.W.keepIn X.K (.ref f) = true) (hb : Bnd X.K fd ps n ks g gV)
    (ha : PA X (e :: es) t) (hkw : PK X kws ta) (hg : Gl X x := by rfl) (hall : (backToKw pos (keywordEach kws X.env)).all (·.1.isSome) = true := by rfl) (hks : (backToKw pos (keywordEach kws X.env)).filterMap (·.1) = ks := by rfl)
    (hdb : (x == ("__debug__" : Str)) = false := by decide) (he : starEach (e :: es) X.env = (false, eval e X.env) :: starEach es X.env := by rfl)
    (hpl : ((backTo pos (starEach (e :: es) X.env)).any (·.1) || (backToKw pos (keywordEach kws X.env)).any (·.1.isNone)) = false := by rfl) :
    PE X (.Call (.Name x p) (e :: es) kws pos) (tGW n ks.length sp gV W t ta) := by
  constructor
  intro pins s σ H Q I h
  refine wpAny_Call_Name_kw (ld_glob I hg hm (PySem.W.callWith_KW (h₀ := X.base) I.ok.mod.kin hk hall (thn (ha.run pos pins s σ H _ I h) ?_) hpl he) hdb)
  rintro us s1 ⟨vs, H1, I1, r, q⟩
  refine thn (hkw.run pos pins s1 σ H1 _ I1 q) ?_
  rintro ws s2 ⟨zs, H2, I2, rz, l1, l2, q2⟩
  rw [hks]
  exact ⟨I2.kIn, runG F hr tk I2 (hb.to s2 us ws I2.kIn (r.length.symm.trans l1) (rz.length.symm.trans l2)) (hb.rel l1 l2 r rz) q2⟩
/-- f(k = v, ..) -/
theorem pc_GW0 (F : FnG X.prog X.w X.K X.mg X.base k f fd ps sp) (hr : Rm k X.A) (tk : Takes X W) (hm : X.mg x = some (.ref f)) (hk : PySem.W.keepIn X.K (.ref f) = true) (hb : Bnd X.K fd ps 0 ks g gV)
    (hkw : PK X kws ta) (hg : Gl X x := by rfl) (hall : (backToKw pos (keywordEach kws X.env)).all (·.1.isSome) = true := by rfl) (hks : (backToKw pos (keywordEach kws X.env)).filterMap (·.1) = ks := by rfl)
    (hdb : (x == ("__debug__" : Str)) = false := by decide)
    (hpl : ((backTo pos (starEach [] X.env)).any (·.1) || (backToKw pos (keywordEach kws X.env)).any (·.1.isNone)) = false := by rfl) :
    PE X (.Call (.Name x p) [] kws pos) (tGW 0 ks.length sp gV W tNil ta) := by
  constructor
  intro pins s σ H Q I h
  refine wpAny_Call_Name_kw (ld_glob I hg hm (PySem.W.callWith_KW0 (h₀ := X.base) I.ok.mod.kin hk hall (thn (hkw.run pos pins s σ H _ I h) ?_) hpl) hdb)
  rintro ws s2 ⟨zs, H2, I2, rz, l1, l2, q2⟩
  rw [hks]
  exact ⟨I2.kIn, runG F hr tk I2 (hb.to s2 [] ws I2.kIn rfl (rz.length.symm.trans l2)) (hb.rel l1 l2 .nil rz) q2⟩
end
end HS

/-! G1: an exception that is kept behind its except suite. -/
namespace HS
open PySem PySem.Spec PyProof.Rows L2
section
variable {X : Cx} {pins : List (Addr × Obj)} {σ : L2.St} {H : Hp} {s s' : Shared}
/-- an object that stood there, made since the entry, is tracked from now on -/
theorem adopt (I : Inv X pins σ H s) {a : Addr} {o : HO} {ob : Obj} {vs : Array Value} (h0 : X.s_0.heap.get? a = none) (hs : s.heap.get? a = some ob) (hd : ob.data = .fields vs) (na : H a = none) (nL : a ≠ X.env.locals) (nF : a ∉ X.fs)
    (np : ∀ p ∈ X.pn ++ pins, p.1 ≠ a) (new : ObjOk X.prog X.w (upd H a o) s.heap a o) : Inv X pins σ (upd H a o) s := by
  have off : ∀ {b : Addr} {u : HO}, H b = some u → b ≠ a := fun {b u} e z => by rw [z, na] at e; cases e
  have off0 : ∀ {b : Addr} {u : Obj}, X.s_0.heap.get? b = some u → b ≠ a := fun {b u} e z => by rw [z, h0] at e; cases e
  have offc : ∀ x c, X.env.cells.lookup x = some c → c ≠ a := fun x c e z => by
    obtain ⟨v, o', e1, e2⟩ := I.cell x c e
    rw [z, hs] at e1
    cases e1
    rw [hd] at e2
    cases e2
  refine ⟨I.ok, I.os, I.bare, ?base, I.loc, I.cell, ?free, ?freeC, ?pin, ?hok, I.len⟩
  case base => exact
    { keep := I.base.keep
      slot := I.base.slot
      there := I.base.there
      free := fun b u e n hx => by rw [upd_ne (off0 e)]; exact I.base.free b u e n hx
      tups := fun b xs e => by have q := I.base.tups b xs e; rw [upd_ne (off q)]; exact q
      frzs := fun b u v e => by have q := I.base.frzs b u v e; rw [upd_ne (off q)]; exact q
      tbls := fun b ps e => by obtain ⟨m, q⟩ := I.base.tbls b ps e; exact ⟨m, by rw [upd_ne (off q)]; exact q⟩ }
  case free => rw [upd_ne (Ne.symm nL)]; exact I.free
  case freeC => intro x c e; rw [upd_ne (offc x c e)]; exact I.freeC x c e
  case pin =>
    intro p hp
    obtain ⟨q1, q2, q3⟩ := I.pin p hp
    exact ⟨q1, by rw [upd_ne (np p hp)]; exact q2, q3⟩
  case hok =>
    intro b u e
    by_cases hb : b = a
    · subst hb
      rw [upd_same] at e
      cases e
      exact new
    · rw [upd_ne hb] at e
      exact (I.hok b u e).stay (fun c v _ q => q) (fun c q => by rw [upd_ne (off q)]; exact q) fun c xs q => by rw [upd_ne (off q)]; exact q

/-- at a: an exception of the class cls, its own dict at d -/
def ExV (a : Addr) (cls : Value) (d : Option Addr) : HO := .ext fun h => ∃ oe vs, h.get? a = some oe ∧ oe.cls = cls ∧ oe.dict = d ∧ oe.data = .fields vs
theorem exv_ok {P : Program} {w : World} {H : Hp} {h : Heap} {a : Addr} {cls : Value} {d : Option Addr} {oe : Obj} {vs : Array Value} (e : h.get? a = some oe) (z : Zc cls d oe) (hd : oe.data = .fields vs) : ObjOk P w H h a (ExV a cls d) :=
  ⟨⟨oe, vs, e, z.1, z.2, hd⟩, ⟨oe, e⟩, fun h1 h2 x k => by
    obtain ⟨o, v, e, r⟩ := x
    exact ⟨o, v, k _ e, r⟩⟩
theorem exv_at {P : Program} {w : World} {H : Hp} {h : Heap} {a : Addr} {cls : Value} {d : Option Addr} (hok : HOk P w H h) (e : H a = some (ExV a cls d)) : ∃ oe vs, h.get? a = some oe ∧ oe.cls = cls ∧ oe.dict = d ∧ oe.data = .fields vs := by
  have x : ObjOk P w H h a (.ext fun h => ∃ oe vs, h.get? a = some oe ∧ oe.cls = cls ∧ oe.dict = d ∧ oe.data = .fields vs) := hok a _ e
  exact x.1

/-- what 'except x as n' wishes, the exception tracked in its suite and behind -/
def wKp (K : PySem.W.Frag) (c : Value) (i : Nat) (ts : Addr → TS) (Wout : WX) (D : Ends) : WX := fun cls d σ H =>
  ∃ b, PySem.W.exmOne K cls c = some b ∧
    (b = true → ∀ a, H a = none → ts a { nx := fun σ' H' => D.nx (σ'.set i none) H', rt := D.rt, bk := fun σ' H' => D.bk (σ'.set i none) H', ct := fun σ' H' => D.ct (σ'.set i none) H' } (σ.set i (some (.ref a))) (upd H a (ExV a cls d))) ∧
    (b = false → Wout cls d σ H)
variable {x n : Str} {c : Value} {i : Nat} {body suite : List Stmt} {b₀ : Stmt} {np pos pos' : Pos} {tb : WX → TS} {ts : Addr → TS} {Wout : WX}
theorem ps_try_kp (hs : X.stack = X.env :: X.outer) (hf : X.env.frame = some X.env.locals) (hex : X.ex = []) (hN : X.N.Nodup) (hi : X.N[i]? = some n) (hln : X.env.kindOf n = some .local) (hc : Names X x c) (tk : Takes X Wout)
    (hb : ∀ (W : WX) (pn : List (Addr × Obj)) (xe : Value → Shared → Prop), Takes (X.tr pn xe) W → PassesOwn (model X.prog X.w) X.A X.env xe → PSs (X.tr pn xe) body (tb W))
    (hsu : ∀ (a : Addr) (pn : List (Addr × Obj)), PSs (X.suite a pn) (b₀ :: suite) (ts a)) :
    PS X (.Try body [.ExceptHandler (some (.Name x np)) (some n) (b₀ :: suite) pos'] [] [] pos) (fun D σ H => tb (wKp X.K c i ts Wout D) D σ H) := by
  constructor
  intro pins s σ H D I h
  have ok := I.ok
  have hfr : X.A.frames = some (X.env :: X.outer) := by rw [ok.frames, hs]
  let xe : Value → Shared → Prop := fun e s₁ => wpAny (model X.prog X.w) X.A (noteFrame e X.env) (fun _ s₂ => wpAny (model X.prog X.w) X.A (setFlight e none) (fun _ s₃ =>
    wpAny (model X.prog X.w) X.A (handleBy e X.env [.ExceptHandler (some (.Name x np)) (some n) (b₀ :: suite) pos']) (SP X pins D) X.xe s₃) X.xe s₂) X.xe s₁
  refine wpAny_Try_except (wpAny_mono ((hb (wKp X.K c i ts Wout D) (X.pn ++ pins) xe ?caught PassesOwn.looking).run [] s σ H D (I.toTry _) h) ?through fun e s1 he => he)
  case through =>
    intro f s1 hsp
    cases f with
    | next => obtain ⟨σ', H', J, q⟩ := hsp; exact wpAny_execs_nil ⟨σ', H', J.ofTry ok, q⟩
    | brk => obtain ⟨σ', H', J, q⟩ := hsp; exact ⟨σ', H', J.ofTry ok, q⟩
    | cont => obtain ⟨σ', H', J, q⟩ := hsp; exact ⟨σ', H', J.ofTry ok, q⟩
    | ret u => obtain ⟨v, σ', H', J, r, q⟩ := hsp; exact ⟨v, σ', H', J.ofTry ok, r, q⟩
  case caught =>
    intro u s' xx
    obtain ⟨a, B, sI, pins', σ', H', cls, d, rfl, J', nb, up, sky, na, os, ag, b, hb1, hyes, hno⟩ := xx
    have J : Inv X pins σ' H' sI := J'.ofTry ok
    rw [show (X.tr (X.pn ++ pins) xe).stack = X.env :: X.outer from hs] at sky
    show wpAny (model X.prog X.w) X.A (noteFrame (.ref a) X.env) _ _ _
    refine Sky.land Zc.steady hfr hf sky fun h3 fl3 up3 => ?_
    have J3 : Inv X pins σ' H' { s' with heap := h3 } := J.landed nb fl3.1 (up.trans up3) os ag
    obtain ⟨oe3, vs3, he3, hz3, hd3⟩ := fl3.there
    have nfr : a ∉ frs (X.env :: X.outer) := fun hm => by
      obtain ⟨_, o', e', hnf⟩ := fl3.2.2.1.mem hm
      rw [he3] at e'
      cases e'
      exact hnf _ hd3
    have nL : a ≠ X.env.locals := fun z => nfr (List.mem_filterMap.mpr ⟨X.env, List.mem_cons_self, by rw [hf, z]⟩)
    have nF : a ∉ X.fs := fun hm => by
      obtain ⟨e, he, q⟩ := List.mem_filterMap.mp hm
      exact nfr (List.mem_filterMap.mpr ⟨e, List.mem_cons_of_mem _ he, q⟩)
    -- the exception was made behind the entry
    have hBa : B.get? a = none := fl3.2.1
    have h0 : X.s_0.heap.get? a = none := by
      cases e : X.s_0.heap.get? a with
      | none => rfl
      | some o =>
        obtain ⟨o', e'⟩ := J.base.there a o e (by rw [hex]; simp)
        have q := nb a o' e' (by rw [show (X.tr (X.pn ++ pins) xe).stack = X.env :: X.outer from hs]; exact nfr)
        rw [hBa] at q
        cases q
    have hIa : sI.heap.get? a = none := by
      cases e : sI.heap.get? a with
      | none => rfl
      | some o' =>
        have q := nb a o' e (by rw [show (X.tr (X.pn ++ pins) xe).stack = X.env :: X.outer from hs]; exact nfr)
        rw [hBa] at q
        cases q
    have npin : ∀ p ∈ X.pn ++ pins, p.1 ≠ a := fun p hp z => by
      obtain ⟨q, _⟩ := J.pin p hp
      rw [z, hIa] at q
      cases q
    have S3 := J3.suite he3 hd3 na nL nF
    refine wpAny_handleBy_cons (codeAny_handlers_test ?_) (by intro q; cases q)
    have LT : PySem.W.Looks (model X.prog X.w) h3 (typeOf (.ref a)) cls := fun A Q E s k q => wpAny_typeOf_ref (k _ _ he3) (by rw [hz3.1]; exact q)
    have LM := PySem.W.exm_one (M := model X.prog X.w) (J3.kIn) LT hb1
    have test : ∀ {Q : Value → Shared → Prop} {E : Value → Shared → Prop}, Q c { s' with heap := h3 } → wpAny (model X.prog X.w) (X.A.mark (some (.ref a))) (eval (.Name x np) X.env) Q E { s' with heap := h3 } := by
      intro Q E q
      obtain ⟨hg, hdbg, hm | ⟨hm, hv, hnn⟩⟩ := hc
      · exact ld_glob (X := X.suite a ((a, oe3) :: (X.pn ++ pins))) S3 hg hm q hdbg
      · exact ld_blt (X := X.suite a ((a, oe3) :: (X.pn ++ pins))) S3 hg hm hv q hnn hdbg
    refine test (LM.here ?_)
    cases b with
    | true =>
      refine codeAny_handlers_suite_as (HandSPX.lands_againZ fl3 fun h4 fl4 up4 => ?_)
      have J4 : Inv X pins σ' H' { s' with heap := h4 } := J.landed nb fl4.1 ((up.trans up3).trans up4) os ag
      obtain ⟨oe4, vs4, he4, hz4, hd4⟩ := fl4.there
      have K4 : Inv X pins σ' (upd H' a (ExV a cls d)) { s' with heap := h4 } := adopt J4 h0 he4 hd4 na nL nF npin (exv_ok he4 hz4 hd4)
      have S4 : Inv (X.suite a (X.pn ++ pins)) [] σ' (upd H' a (ExV a cls d)) { s' with heap := h4 } :=
        ⟨K4.ok.suite _ _, K4.os, K4.bare, K4.base, K4.loc, K4.cell, K4.free, K4.freeC, fun p hp => K4.pin p (by rw [List.append_nil] at hp; exact hp), K4.hok, K4.len⟩
      refine store_ok (X := X.suite a (X.pn ++ pins)) (v := .ref a) S4 hN hi (.inl hln) rfl (fun s5 S5 => ?_) (.inr hln)
      refine wpAny_mono ((hsu a (X.pn ++ pins)).run [] s5 _ _ _ S5 (hyes rfl a na)) ?_ (fun _ _ z => False.elim z)
      have end_ : ∀ {σ6 : L2.St} {H6 : Hp} {s6 : Shared} {Q : Shared → Prop}, Inv (X.suite a (X.pn ++ pins)) [] σ6 H6 s6 → (∀ s7, Inv X pins (σ6.set i none) H6 s7 → Q s7) →
          wpAny (model X.prog X.w) X.A (do bindName X.env n .none; unbindBehindTheSuite X.env n pos') (fun _ s7 => Q s7) X.xe s6 := by
        intro σ6 H6 s6 Q S6 hq
        have J6 : Inv X pins σ6 H6 s6 := ⟨ok, S6.os, S6.bare, S6.base, S6.loc, S6.cell, S6.free, S6.freeC, fun p hp => S6.pin p (List.mem_append_left _ hp), S6.hok, S6.len⟩
        exact gone_ok J6 hN hi hln hq
      intro f s6 hsp
      cases f with
      | next => obtain ⟨σ6, H6, S6, q6⟩ := hsp; exact end_ S6 fun s7 J7 => ⟨_, _, J7, q6⟩
      | brk => obtain ⟨σ6, H6, S6, q6⟩ := hsp; exact end_ S6 fun s7 J7 => ⟨_, _, J7, q6⟩
      | cont => obtain ⟨σ6, H6, S6, q6⟩ := hsp; exact end_ S6 fun s7 J7 => ⟨_, _, J7, q6⟩
      | ret u => obtain ⟨v6, σ6, H6, S6, r6, q6⟩ := hsp; exact end_ S6 fun s7 J7 => ⟨_, _, _, J7, r6, q6⟩
    | false =>
      show wpAny _ X.A (handleBy (.ref a) X.env []) _ _ _
      refine wpAny_handleBy_nil ?_
      obtain ⟨k1, k2, k3, oe, vs, T, oT, ts', he, hz, hd, h1, hr⟩ := id fl3
      unfold PySem.passOn
      refine wpAny_bind (wpAny_field he hd h1 ?_)
      rw [if_neg (show ¬ ((Value.ref T == Value.none) = true) from by simp)]
      have fin : wpAny (model X.prog X.w) X.A (setFlight (.ref a) X.env.frame) (fun _ s4 => wpAny (model X.prog X.w) X.A (throw (.ref a) : Sem Flow) (SP X pins D) X.xe s4) X.xe { s' with heap := h3 } := by
        rw [hf]
        refine HandSPX.setFlight_upZ fl3 fun h4 hh4 up4 => wpAny_throw (tk _ _ ?_)
        exact ⟨a, B, sI, pins, σ', H', cls, d, rfl, J, nb, (up.trans up3).trans up4, .inr (.inr (by rw [hs]; exact hh4)), na, os, ag, hno rfl⟩
      first
        | exact wpAny_bind (wpAny_pure (wpAny_bind fin))
        | exact wpAny_bind fin

/-! ### a kept exception is asked -/
/-- e.f -/
def tXv (K : PySem.W.Frag) (f : Str) (te : TE) : TE := fun σ H Q => te σ H fun x H1 => ∃ (a C dd : Addr) (fs : List (Str × V)) (v : V), x = .ref a ∧ H1 a = some (ExV a (.ref C) (some dd)) ∧ H1 dd = some (.xd fs) ∧ fs.lookup f = some v ∧ XfC K C ∧
  PySem.W.findIn K (.ref C) f = some none ∧ Q v H1
theorem pe_xv {e : Expr} {te : TE} {f : Str} {pos : Pos} (he : PE X e te) (hb : attributeBase e f X.env (eval e X.env) = eval e X.env := by rfl) : PE X (.Attribute e f pos) (tXv X.K f te) := by
  constructor
  intro pins s σ H Q I h
  refine attr_of hb (thn (he.run pins s σ H _ I h) ?_)
  rintro u s1 ⟨x, H1, I1, rx, a, C, dd, fs, v, rfl, ea, ed, l, T, hno, q⟩
  obtain rfl : u = Value.ref a := rx
  obtain ⟨oe, vs, h1, h2, h3, h4⟩ := exv_at I1.hok ea
  obtain ⟨mA, hns, hr⟩ : ObjOk X.prog X.w H1 s1.heap dd (.xd fs) := I1.hok dd _ ed
  obtain ⟨od, ho, hl⟩ := lookIn_ns hns
  obtain ⟨u, hu, ru⟩ := RelO.some_of (v := v) (o := mA f) (by rw [← l]; exact hr f)
  have J : PySem.W.InstAt s1.heap a oe C (some od) := ⟨h1, h2, by unfold PySem.W.notCls; rw [h4] <;> rfl, by rw [h3]; exact ho⟩
  exact HandSPX.exc_get I1.kIn J T.ga T.gg T.exC (PySem.W.findObj_own T.hdC hno rfl (by rw [hl, hu])) (handed_of ru) ⟨v, H1, I1.tok _, ru, q⟩
end
end HS

/-! G2: data of any depth with dicts (Rd), repr of it, isinstance with kept exceptions. -/
namespace HS
open PySem PySem.Spec PyProof.Rows L2

/-! ### data -/
def kD : Key → PyData
  | .inl i => .int i
  | .inr x => .str x
mutual
inductive Rd (K : PySem.W.Frag) (H : Hp) : V → PyData → Prop
  | non : Rd K H .non .none
  | bl (b : Bool) : Rd K H (.bl b) (.bool b)
  | int (i : Int) : Rd K H (.int i) (.int i)
  | str (x : Str) : Rd K H (.str x) (.str x)
  | lst {a : Addr} {xs : List V} {ds : List PyData} : SqL K H a xs → a ≠ sysModules → RdA K H xs ds → Rd K H (.ref a) (.list ds)
  | tup {a : Addr} {xs : List V} {ds : List PyData} : SqT K H a xs → RdA K H xs ds → Rd K H (.ref a) (.tuple ds)
  | dct {a : Addr} {ks : List Key} {vs : List V} {ds : List PyData} : H a = some (.dK (ks.zip vs)) → ks.length = vs.length → RdA K H vs ds → Rd K H (.ref a) (.dict ((ks.map kD).zip ds))
inductive RdA (K : PySem.W.Frag) (H : Hp) : List V → List PyData → Prop
  | nil : RdA K H [] []
  | cons {v : V} {vs : List V} {d : PyData} {ds : List PyData} : Rd K H v d → RdA K H vs ds → RdA K H (v :: vs) (d :: ds)
end
theorem RdA.length {K : PySem.W.Frag} {H : Hp} : ∀ {vs : List V} {ds : List PyData}, RdA K H vs ds → vs.length = ds.length
  | _, _, .nil => rfl
  | _, _, .cons _ t => congrArg Nat.succ t.length
section
variable {K : PySem.W.Frag} {H H' : Hp}
theorem Same.tup (e : Same H H') {a : Addr} {xs : List V} (h : SqT K H a xs) : SqT K H' a xs := by
  rcases h with (h | ⟨o, h⟩) | h
  · exact .inl (.inl (e _ _ h))
  · exact .inl (.inr ⟨o, e _ _ h⟩)
  · exact .inr h
mutual
theorem Rd.same (e : Same H H') : ∀ {v : V} {d : PyData}, Rd K H v d → Rd K H' v d
  | _, _, .non => .non
  | _, _, .bl b => .bl b
  | _, _, .int i => .int i
  | _, _, .str x => .str x
  | _, _, .lst h n t => .lst (L2.Same.seq e h) n (RdA.same e t)
  | _, _, .tup h t => .tup (Same.tup e h) (RdA.same e t)
  | _, _, .dct h l t => .dct (e _ _ h) l (RdA.same e t)
theorem RdA.same (e : Same H H') : ∀ {vs : List V} {ds : List PyData}, RdA K H vs ds → RdA K H' vs ds
  | _, _, .nil => .nil
  | _, _, .cons h t => .cons (Rd.same e h) (RdA.same e t)
end
end
theorem keyIs_reads {h : Heap} : ∀ {k : Key} {v : Value}, keyIs k v = true → Reads h v (kD k) []
  | .inl i, v, e => by
    rcases keyIs_shape e with ⟨j, t, e1, rfl⟩ | ⟨x, t, e1, _⟩
    · cases e1
      exact .int i t
    · cases e1
  | .inr x, v, e => by
    rcases keyIs_shape e with ⟨j, t, e1, _⟩ | ⟨y, t, e1, rfl⟩
    · cases e1
    · cases e1
      exact .str x t
theorem keys_reads {P : Program} {w : World} {h : Heap} : ∀ {es : List DictEntry} {kvs : List (Key × Value)}, Pairs (mixKind P w) es kvs → ReadsAll h (es.map (·.key)) (kvs.map fun p => kD p.1) [] ∧ es.map (·.val) = kvs.map (·.2)
  | _, _, .nil => ⟨.nil, rfl⟩
  | _, _, .cons h1 h2 t => by
    obtain ⟨q1, q2⟩ := keys_reads (h := h) t
    refine ⟨?_, ?_⟩
    · exact .cons (as := []) (bs := []) (keyIs_reads h1) q1
    · simp [h2, q2]
theorem kv_split : ∀ {ks : List Key} {vs : List V} {ps : List (Key × Value)}, ks.length = vs.length → KV (ks.zip vs) ps → ps.map (fun p => kD p.1) = ks.map kD ∧ Vals vs (ps.map (·.2))
  | [], [], _, _, h => by
    cases h
    exact ⟨rfl, .nil⟩
  | k :: ks, v :: vs, _, l, h => by
    cases h with
    | cons h1 t =>
      obtain ⟨q1, q2⟩ := kv_split (ks := ks) (vs := vs) (by simpa using l) t
      refine ⟨?_, .cons h1.2 q2⟩
      simp only [List.map_cons, q1, ← h1.1]
  | [], _ :: _, _, l, _ => by cases l
  | _ :: _, [], _, l, _ => by cases l
section
variable {X : Cx} {pins : List (Addr × Obj)} {σ : L2.St} {H : Hp} {s : Shared}
mutual
theorem Rd.reads (I : Inv X pins σ H s) : ∀ {v : V} {d : PyData}, Rd X.K H v d → ∀ u : Value, RelV v u → ∃ as, Reads s.heap u d as ∧ sysModules ∉ as
  | _, _, .non, u, r => by
    cases r
    exact ⟨_, Reads.none, by simp⟩
  | _, _, .bl b, u, r => by
    cases r
    exact ⟨_, Reads.bool b, by simp⟩
  | _, _, .int i, u, r => by
    obtain ⟨t, rfl⟩ := r
    exact ⟨_, Reads.int i t, by simp⟩
  | _, _, .str x, u, r => by
    obtain ⟨t, rfl⟩ := r
    exact ⟨_, Reads.str x t, by simp⟩
  | _, _, .lst hs hn ha, u, r => by
    cases r
    obtain ⟨its, rv, ⟨o, n, ho, hc, _, hd⟩, _⟩ := I.list hs
    obtain ⟨as, hr, hm⟩ := Rd.readsAll I ha its rv
    refine ⟨_, Reads.list ho hc hd hr, fun z => ?_⟩
    rcases List.mem_cons.mp z with z | z
    · exact hn z.symm
    · exact hm z
  | _, _, .tup hs ha, u, r => by
    cases r
    obtain ⟨its, rv, ⟨o, ho, hc, n, hd⟩, _⟩ := I.tuple hs
    obtain ⟨as, hr, hm⟩ := Rd.readsAll I ha its rv
    exact ⟨_, Reads.tuple ho hc hd hr, hm⟩
  | _, _, .dct (a := a) (ks := ks) (vs := vs) (ds := ds) hs hl ha, u, r => by
    cases r
    obtain ⟨_, hn, ps, hp, o, es, ep, ho, hx, hd, _, hpairs, _⟩ : ObjOk X.prog X.w H s.heap a (.dK (ks.zip vs)) := I.hok a _ hs
    obtain ⟨e1, rv⟩ := kv_split hl hp
    obtain ⟨q1, q2⟩ := keys_reads (h := s.heap) hpairs
    have hlen := ha.length
    obtain ⟨bs, hr, hm⟩ := Rd.readsAll I ha _ rv
    have k1 : ((ks.map kD).zip ds).map (·.1) = ks.map kD := by
      rw [List.map_fst_zip (by simp; omega)]
    have k2 : ((ks.map kD).zip ds).map (·.2) = ds := by
      rw [List.map_snd_zip (by simp; omega)]
    refine ⟨_, Reads.dict ho hx.1 hd (as := []) (bs := bs) (by rw [k1, ← e1]; exact q1) (by rw [k2, q2]; exact hr), fun z => ?_⟩
    rcases List.mem_append.mp z with z | z
    · rcases List.mem_cons.mp z with z | z
      · rw [← z] at hn; simp at hn
      · cases z
    · exact hm z
theorem Rd.readsAll (I : Inv X pins σ H s) : ∀ {vs : List V} {ds : List PyData}, RdA X.K H vs ds → ∀ us : List Value, Vals vs us → ∃ as, ReadsAll s.heap us ds as ∧ sysModules ∉ as
  | _, _, .nil, us, r => by
    cases r
    exact ⟨_, ReadsAll.nil, by simp⟩
  | _, _, .cons h1 h2, us, r => by
    cases r with
    | cons r1 r2 =>
      obtain ⟨as, q1, m1⟩ := Rd.reads I h1 _ r1
      obtain ⟨bs, q2, m2⟩ := Rd.readsAll I h2 _ r2
      exact ⟨_, ReadsAll.cons q1 q2, fun z => (List.mem_append.mp z).elim m1 m2⟩
end
/-- repr(v) -/
structure rRepr (K : PySem.W.Frag) (xs : List V) (H : Hp) (Q : VK) : Prop where
  ex : ∃ v d, xs = [v] ∧ Rd K H v d ∧ d.showable = true ∧ d.depth ≤ 60 ∧ d.shown.length ≤ sizeLine ∧ Q (.str d.shown) H
theorem call_repr {k : Nat} (hr : Rm k X.A) : CallR X (.builtin "repr") (rRepr X.K) := by
  intro pins s σ H xs us Q I r h
  obtain ⟨v, d, rfl, hd, hs, hdep, hsz, q⟩ := h.ex
  cases r with
  | cons rv rn =>
    cases rn
    rename_i u
    obtain ⟨as, rd, hm⟩ := Rd.reads I hd u rv
    have hu := hr.room.units
    cases rd with
    | none => simp only [PyData.shown] at q; exact P.repr_of_none ⟨.str _, H, I.tok _, ⟨_, rfl⟩, q⟩
    | bool b => simp only [PyData.shown] at q; exact P.repr_of_bool ⟨.str _, H, I.tok _, ⟨_, rfl⟩, q⟩
    | int i t => simp only [PyData.shown] at q; exact P.repr_of_int (by simpa [PyData.showable] using hs) ⟨.str _, H, I.tok _, ⟨_, rfl⟩, q⟩
    | str x t => simp only [PyData.shown] at q hsz; exact P.repr_of_str ⟨.str _, H, I.tok _, ⟨_, rfl⟩, q⟩ hsz
    | list h1 h2 h3 h4 => exact repr_of_reads' (.list h1 h2 h3 h4) hs (fun _ => hm) hr.gd (by omega) (fun _ _ e => e) (fun h' u tk k => ⟨.str _, H, I.kept k, ⟨_, rfl⟩, q⟩) hsz
    | tuple h1 h2 h3 h4 => exact repr_of_reads' (.tuple h1 h2 h3 h4) hs (fun _ => hm) hr.gd (by omega) (fun _ _ e => e) (fun h' u tk k => ⟨.str _, H, I.kept k, ⟨_, rfl⟩, q⟩) hsz
    | dict h1 h2 h3 h4 h5 => exact repr_of_reads' (.dict h1 h2 h3 h4 h5) hs (fun _ => hm) hr.gd (by omega) (fun _ _ e => e) (fun h' u tk k => ⟨.str _, H, I.kept k, ⟨_, rfl⟩, q⟩) hsz

/-! ### isinstance -/
/-- an own exception class, asked by isinstance -/
structure ExK (K : PySem.W.Frag) (C : Addr) : Prop where
  hcl : (PySem.W.clsIn K C).isSome = true
  hga : PySem.W.findIn K (.ref C) "__getattribute__" = some (some (.builtin "BaseException.__getattribute__"))
  hgt : PySem.W.findIn K (.ref C) "__getattr__" = some none
  hsub : PySem.W.subIn K (.ref C) (.type "BaseException") = some true
  ha : PySem.W.findIn K (.ref C) "__class__" = some (some (.builtin "object.__class__"))
  hn : PySem.W.specialIn K (.builtin "object.__class__") "__get__" = some (some (.builtin "getset_descriptor.__get__"))
  htk : PySem.W.takesIn K (.builtin "object.__class__") = some true
  hm : PySem.W.mroIn K C (.type "object") = some true
/-- a value's type, kept exceptions too -/
inductive Ty (K : PySem.W.Frag) (H : Hp) : V → Value → Prop where
  | x {v : V} {t : Value} (h : TyX K H v t) : Ty K H v t
  | exc {a C : Addr} {d : Option Addr} (e : H a = some (ExV a (.ref C) d)) (hd : ∀ dd, d = some dd → ∃ fs, H dd = some (.xd fs)) (c : ExK K C) : Ty K H (.ref a) (.ref C)
theorem kit_ofT {x : V} {u t : Value} (I : Inv X pins σ H s) (rx : RelV x u) (ty : Ty X.K H x t) : ∃ P : Heap → Prop, PySem.W.KitX X.K u t P ∧ P s.heap ∧ u ≠ .builtin "__main__.__loader__#opaque" := by
  cases ty with
  | x h => exact kit_of I rx h
  | @exc a C d e hd c =>
    obtain rfl : u = Value.ref a := rx
    obtain ⟨oe, vs, h1, h2, h3, h4⟩ := exv_at I.hok e
    have nc : PySem.W.notCls oe = true := by unfold PySem.W.notCls; rw [h4] <;> rfl
    cases d with
    | none => exact ⟨_, PySem.W.kitx_exc (ox := oe) (od := none) c.hcl c.hga c.hgt c.hsub c.ha c.hn c.htk c.hm, ⟨h1, h2, nc, by rw [h3]; trivial⟩, fun z => nomatch z⟩
    | some dd =>
      obtain ⟨fs, ed⟩ := hd dd rfl
      obtain ⟨mA, hns, hr⟩ : ObjOk X.prog X.w H s.heap dd (.xd fs) := I.hok dd _ ed
      obtain ⟨od, ho, hl⟩ := lookIn_ns hns
      exact ⟨_, PySem.W.kitx_exc (ox := oe) (od := some od) c.hcl c.hga c.hgt c.hsub c.ha c.hn c.htk c.hm, ⟨h1, h2, nc, by rw [h3]; exact ho⟩, fun z => nomatch z⟩
/-- isinstance(x, c) -/
structure rIs (K : PySem.W.Frag) (xs : List V) (H : Hp) (Q : VK) : Prop where
  ex : ∃ (x c : V) (t u : Value) (b : Bool), xs = [x, c] ∧ ClsV c u ∧ Ty K H x t ∧ PySem.W.kitOne K t u = some b ∧ Q (.bl b) H
theorem call_is : CallR X (.builtin "isinstance") (rIs X.K) := by
  intro pins s σ H xs us Q I r h
  obtain ⟨x, c, t, u, b, rfl, k, ty, e, q⟩ := h.ex
  obtain ⟨u1, u2, rfl, r1, r2⟩ := vals2 r
  obtain rfl := k.eq r2
  obtain ⟨P, Z, p, hx⟩ := kit_ofT I r1 ty
  exact PySem.W.kia_one Z I.kIn p e hx fun tk => ⟨.bl b, H, I.tok tk, rfl, q⟩
/-- isinstance(x, (c1, c2, ..)) -/
structure rIsT (K : PySem.W.Frag) (xs : List V) (H : Hp) (Q : VK) : Prop where
  ex : ∃ (x : V) (tp : Addr) (cs : List V) (t : Value) (us : List Value) (b : Bool), xs = [x, .ref tp] ∧ H tp = some (.tup cs) ∧ Paired ClsV cs us ∧ Ty K H x t ∧ PySem.W.kitAny K t us = some b ∧ Q (.bl b) H
theorem call_isT : CallR X (.builtin "isinstance") (rIsT X.K) := by
  intro pins s σ H xs us Q I r h
  obtain ⟨x, tp, cs, t, ws, b, rfl, hT, k, ty, e, q⟩ := h.ex
  obtain ⟨u1, u2, rfl, r1, r2⟩ := vals2 r
  obtain rfl : u2 = Value.ref tp := r2
  obtain ⟨P, Z, p, hx⟩ := kit_ofT I r1 ty
  obtain ⟨_, its, rv, ⟨oc, od, dt, sl⟩, h1, h2, n, h3⟩ : ObjOk X.prog X.w H s.heap tp (.tup cs) := I.hok tp _ hT
  obtain rfl := ClsV.all k rv
  simp only at h2 h3
  subst h2 h3
  exact PySem.W.kia_tup Z I.kIn p h1 e hx fun tk => ⟨.bl b, H, I.tok tk, rfl, q⟩
end
theorem rIs_mk {K : PySem.W.Frag} {H : Hp} {Q : VK} {x c : V} {t u : Value} {b : Bool} (h : ClsV c u) (ty : Ty K H x t) (k : PySem.W.kitOne K t u = some b) (q : Q (.bl b) H) : rIs K [x, c] H Q := ⟨⟨x, c, t, u, b, rfl, h, ty, k, q⟩⟩
theorem rIsT_mk {K : PySem.W.Frag} {H : Hp} {Q : VK} {x : V} {tp : Addr} {cs : List V} {t : Value} {us : List Value} {b : Bool} (hT : H tp = some (.tup cs)) (h : Paired ClsV cs us) (ty : Ty K H x t) (k : PySem.W.kitAny K t us = some b) (q : Q (.bl b) H) : rIsT K [x, .ref tp] H Q := ⟨⟨x, tp, cs, t, us, b, rfl, hT, h, ty, k, q⟩⟩
theorem rRepr_mk {K : PySem.W.Frag} {H : Hp} {Q : VK} {v : V} {d : PyData} (r : Rd K H v d) (sh : d.showable = true) (dep : d.depth ≤ 60) (len : d.shown.length ≤ sizeLine) (q : Q (.str d.shown) H) : rRepr K [v] H Q := ⟨⟨v, d, rfl, r, sh, dep, len, q⟩⟩
end HS

/-! G3: own exception classes with one or two fields, the law's end. -/
namespace HS
open PySem PySem.Spec PyProof.Rows L2

/-! ### error classes whose __init__ stores its arguments -/
def spE1 (C : Addr) (f : Str) : Sp := fun vs H Q _ => ∃ a v, vs = [.ref a, v] ∧ H a = some (exo a C none) ∧ ∀ dx, H dx = none → dx ≠ a → Q .non (upd (upd H dx (exd dx [(f, v)])) a (exo a C (some dx)))
def spE2 (C : Addr) (f g : Str) : Sp := fun vs H Q _ => ∃ a v z, vs = [.ref a, v, z] ∧ H a = some (exo a C none) ∧ ∀ dx, H dx = none → dx ≠ a → Q .non (upd (upd (upd H dx (exd dx [(f, v)])) a (exo a C (some dx))) dx (exd dx [(g, z), (f, v)]))
section
variable {P : Program} {w : World} {K : PySem.W.Frag} {mg : Str → Option Value} {base : Heap} {C fI : Addr} {fd : FuncData} {qual f g : Str} {st : Stmt}
theorem fvis {N ps : List Str} {sc : Scope} (S : FnScope N ps sc) {x : Str} (h : x ∈ ps) : Vis sc x := (S.par x h).elim .inl fun z => .inr (.inl z)
theorem ok_E1 (F : Fun K "__init__" qual st fI fd) (S : FnScope ["self", f] ["self", f] (defScope st)) {p1 p2 p3 p4 : Pos} (hb : defBody st = [.Assign [.Attribute (.Name "self" p1) f p2] (.Name f p3) p4])
    (T : OexC K C) (no : PySem.W.findIn K (.ref C) f = some none) (hf : (f == ("__debug__" : Str)) = false) (hc : (f == ("__classdict__" : Str)) = false)
    (hs : ∀ env, swapsWith (.Name f p3) (some (.Attribute (.Name "self" p1) f p2)) p4.line env = pure false) : FnOk P w K mg base (L2.CX P w) 1 fI fd ["self", f] (spE1 C f) := by
  refine F.okX S (fun vs H Q E h => ?_) (fun cdv A outer s H vs Q E hr h => ?_)
  · obtain ⟨a, v, rfl, _⟩ := h
    rfl
  · obtain ⟨a, v, rfl, ha, k⟩ := h
    rw [hb]
    refine ⟨_, pss_one (ps_ost (pe_var (i := 0) rfl (fvis S (by simp))) (pe_var (i := 1) rfl (fvis S (by simp)) hf hc) (hs _)), ?_⟩
    exact ⟨_, rfl, _, rfl, a, C, rfl, T, no, .inl ⟨ha, fun dx n ne => k dx n ne⟩⟩
theorem ok_E2 (F : Fun K "__init__" qual st fI fd) (S : FnScope ["self", f, g] ["self", f, g] (defScope st)) {p1 p2 p3 p4 q1 q2 q3 q4 : Pos}
    (hb : defBody st = [.Assign [.Attribute (.Name "self" p1) f p2] (.Name f p3) p4, .Assign [.Attribute (.Name "self" q1) g q2] (.Name g q3) q4])
    (T : OexC K C) (no : PySem.W.findIn K (.ref C) f = some none) (no2 : PySem.W.findIn K (.ref C) g = some none) (hf : (f == ("__debug__" : Str)) = false) (hc : (f == ("__classdict__" : Str)) = false) (hg : (g == ("__debug__" : Str)) = false) (hgc : (g == ("__classdict__" : Str)) = false)
    (hs : ∀ env, swapsWith (.Name f p3) (some (.Attribute (.Name "self" p1) f p2)) p4.line env = pure false) (hs2 : ∀ env, swapsWith (.Name g q3) (some (.Attribute (.Name "self" q1) g q2)) q4.line env = pure false) :
    FnOk P w K mg base (L2.CX P w) 1 fI fd ["self", f, g] (spE2 C f g) := by
  refine F.okX S (fun vs H Q E h => ?_) (fun cdv A outer s H vs Q E hr h => ?_)
  · obtain ⟨a, v, z, rfl, _⟩ := h
    rfl
  · obtain ⟨a, v, z, rfl, ha, k⟩ := h
    rw [hb]
    refine ⟨_, pss_cons (ps_ost (pe_var (i := 0) rfl (fvis S (by simp))) (pe_var (i := 1) rfl (fvis S (by simp)) hf hc) (hs _)) (pss_one (ps_ost (pe_var (i := 0) rfl (fvis S (by simp))) (pe_var (i := 2) rfl (fvis S (by simp)) hg hgc) (hs2 _))), ?_⟩
    refine ⟨_, rfl, _, rfl, a, C, rfl, T, no, .inl ⟨ha, fun dx n ne => ?_⟩⟩
    exact ⟨_, rfl, _, rfl, a, C, rfl, T, no2, .inr ⟨dx, _, upd_same, by rw [upd_ne ne, upd_same], by simp, k dx n ne⟩⟩
end
/-- what the written part says of an own error class with one field -/
structure Er1 (P : Program) (w : World) (K : PySem.W.Frag) (mg : Str → Option Value) (base : Heap) (x f : Str) (C fI : Addr) (fd : FuncData) : Prop where
  T : OexC K C
  iC : PySem.W.findIn K (.ref C) "__init__" = some (some (.ref fI))
  tI : PySem.W.typeIn K (.ref fI) = some (.type "function")
  gC : mg x = some (.ref C)
  F : FnOk P w K mg base (L2.CX P w) 1 fI fd ["self", f] (spE1 C f)
  b : Binds K fd ["self", f] []
structure Er2 (P : Program) (w : World) (K : PySem.W.Frag) (mg : Str → Option Value) (base : Heap) (x f g : Str) (C fI : Addr) (fd : FuncData) : Prop where
  T : OexC K C
  iC : PySem.W.findIn K (.ref C) "__init__" = some (some (.ref fI))
  tI : PySem.W.typeIn K (.ref fI) = some (.type "function")
  gC : mg x = some (.ref C)
  F : FnOk P w K mg base (L2.CX P w) 1 fI fd ["self", f, g] (spE2 C f g)
  b : Binds K fd ["self", f, g] []
section
variable {X : Cx} {x f g : Str} {C fI : Addr} {fd : FuncData} {k : Nat} {e : Expr} {es : List Expr} {ta : TA} {p pos pos2 : Pos} {W : WX}
theorem back_to (H : Hp) {a d : Addr} {u v u' : HO} (na : H a = none) (n : d ≠ a) : upd (del (upd (upd (upd H a u) d v) a u') a) d = upd H d := by
  funext o b
  by_cases hb : b = d
  · rw [hb, upd_same, upd_same]
  · rw [upd_ne hb, upd_ne hb]
    by_cases hc : b = a
    · rw [hc, del_same, na]
    · rw [del_ne hc, upd_ne hc, upd_ne hb, upd_ne hc]
/-- a weaker end -/
def upA (ta : TA) : TA := fun σ H Q => ∃ Q0, ta σ H Q0 ∧ ∀ vs H', Q0 vs H' → Q vs H'
theorem PAup (h : PA X es ta) : PA X es (upA ta) := by
  constructor
  intro pos pins s σ H Q I hq
  obtain ⟨Q0, h0, hm⟩ := hq
  exact thn (h.run pos pins s σ H Q0 I h0) fun us s' ⟨vs, H', J, r, q⟩ => ⟨vs, H', J, r, hm _ _ q⟩
theorem pmk_E1 (R : Er1 X.prog X.w X.K X.mg X.base x f C fI fd) (hr : Rm k X.A) (h2 : 2 ≤ k) (hg : Gl X x) (ha : PA X (e :: es) ta)
    (hdb : (x == ("__debug__" : Str)) = false := by decide) (he : starEach (e :: es) X.env = (false, eval e X.env) :: starEach es X.env := by rfl) (hpl : (backTo pos (starEach es X.env)).any (·.1) = false := by rfl) :
    PMk X (.Call (.Name x p) (e :: es) [] pos) (fun σ H Q => ta σ H fun vs H1 => ∃ v, vs = [v] ∧ ∀ d, H1 d = none → Q (.ref C) (some d) (upd H1 d (.xd [(f, v)]))) := by
  intro pins s σ H Q I h
  refine pmk_oex R.T R.iC R.tI R.F (hr.room.mono h2) R.b .nil passE0 hg R.gC (PAup ha) hdb he hpl pins s σ H Q I ⟨_, h, ?_⟩
  rintro vs H1 ⟨v, rfl, q⟩
  refine ⟨by simp, fun a na => ⟨a, v, rfl, upd_same, fun dx n ne => ⟨rfl, ?_⟩⟩⟩
  have n1 : H1 dx = none := by rw [upd_ne ne] at n; exact n
  refine ⟨dx, _, upd_same, by rw [upd_ne ne, upd_same], n1, ?_⟩
  rw [back_to H1 na ne]
  exact q dx n1
theorem back_to2 (H : Hp) {a d : Addr} {u v v2 u' : HO} (na : H a = none) (n : d ≠ a) : upd (del (upd (upd (upd (upd H a u) d v) a u') d v2) a) d = upd H d := by
  funext o b
  by_cases hb : b = d
  · rw [hb, upd_same, upd_same]
  · rw [upd_ne hb, upd_ne hb]
    by_cases hc : b = a
    · rw [hc, del_same, na]
    · rw [del_ne hc, upd_ne hb, upd_ne hc, upd_ne hb, upd_ne hc]
theorem pmk_E2 (R : Er2 X.prog X.w X.K X.mg X.base x f g C fI fd) (hr : Rm k X.A) (h2 : 2 ≤ k) (hg : Gl X x) (ha : PA X (e :: es) ta)
    (hdb : (x == ("__debug__" : Str)) = false := by decide) (he : starEach (e :: es) X.env = (false, eval e X.env) :: starEach es X.env := by rfl) (hpl : (backTo pos (starEach es X.env)).any (·.1) = false := by rfl) :
    PMk X (.Call (.Name x p) (e :: es) [] pos) (fun σ H Q => ta σ H fun vs H1 => ∃ v z, vs = [v, z] ∧ ∀ d, H1 d = none → Q (.ref C) (some d) (upd H1 d (.xd [(g, z), (f, v)]))) := by
  intro pins s σ H Q I h
  refine pmk_oex R.T R.iC R.tI R.F (hr.room.mono h2) R.b .nil passE0 hg R.gC (PAup ha) hdb he hpl pins s σ H Q I ⟨_, h, ?_⟩
  rintro vs H1 ⟨v, z, rfl, q⟩
  refine ⟨by simp, fun a na => ⟨a, v, z, rfl, upd_same, fun dx n ne => ⟨rfl, ?_⟩⟩⟩
  have n1 : H1 dx = none := by rw [upd_ne ne] at n; exact n
  refine ⟨dx, _, by rw [upd_ne (Ne.symm ne), upd_same], upd_same, n1, ?_⟩
  rw [back_to2 H1 na ne]
  exact q dx n1
end

/-! ### the law's end -/
theorem callCX0 {P : Program} {w : World} {outer : List Env} {H : Hp} {s : Shared} {e : Value} {s' : Shared} (h : L2.CX P w outer H s (fun _ _ _ => False) e s') : False := by
  obtain ⟨a, B, H', cls, d, _, _, _, _, _, _, _, h⟩ := h
  exact h.elim
theorem rm_caller {k : Nat} (h : k ≤ 200) : Rm k callerA :=
  ⟨⟨rfl, by show 1 + 300 + 3 * k + 5 < 1000; omega, by show 4 + 16 * k + 200 < 9900; omega⟩, rfl⟩
end HS

/-! G4: from the law's promise to the row. -/
namespace HS
open PySem PySem.Spec PyProof.Rows L2

/-- at the law's entry nothing is tracked but the script, which stands still -/
structure Entry (K : PySem.W.Frag) (H : Hp) (a : Addr) (ns : List Int) : Prop where
  only : ∀ b, H b = none ∨ (b = a ∧ ∃ o, H b = some (.frz o (.lst (ns.map V.int))))
  scr : SqL K H a (ns.map V.int)
section
variable {P : Program} {w : World} {K : PySem.W.Frag} {mg mb : Str → Option Value} {k : Nat} {fa a : Addr} {fd : FuncData} {x : Str} {sp : Sp} {s₁ : Shared} {vs : List Value} {ns : List Int}
/-- the call from an abstract heap in which the script alone may be tracked -/
theorem entry_call {H : Hp} (KX : K.In s₁.heap) (hns : s₁.heap.Ns mainGlobals mg) (hb : s₁.heap.Ns builtinsNs mb) (hbb : ∀ x : Str, x ≠ "__name__" → mb x = bootBuiltins x) (hlim : s₁.heap.NoLimit) (hg : s₁.gens = #[])
    (ha : s₁.heap.get? a = some { cls := .type "list", data := .seq vs.toArray }) (hr : Rm k callerA)
    (F : ∀ base : Heap, K.In base → base.Ns mainGlobals mg → FnG P w K mg base k fa fd [x] sp) (hbind : ∀ (s : Shared) (u : Value), BindsTo s fd ⟨[u], []⟩ [(x, u)])
    (hE : Entry K H a ns) (hok : HOk P w H s₁.heap) (hK : H a ≠ none → K.lookup a = none) (hsp : sp [.ref a] H (fun v _ => v = .bl true) fun _ _ _ => False) :
    codeAny (model P w) callerA (.call (.ref fa) ⟨[.ref a], []⟩) (fun r s' => r = .ok (.ret (.bool true)) ∧ OldK s₁.heap s'.heap ∧ s'.os = s₁.os ∧ AllBare s'.gens) s₁ := by
  have free : ∀ {b : Addr}, b ≠ a → H b = none := fun {b} n => (hE.only b).elim id fun z => absurd z.1 n
  -- a namespace is not the script
  have nsK : ∀ {b : Addr} {m : Str → Option Value}, s₁.heap.Ns b m → (hidT s₁.heap H).Ns b m := by
    intro b m hn
    obtain ⟨o, es, ep, e, d, r⟩ := hn
    refine ⟨o, es, ep, hidT_get e (free fun z => ?_), d, r⟩
    rw [z, ha] at e
    cases e
    cases d
  have hKb : K.In (hidT s₁.heap H) := by
    intro b o e
    refine hidT_get (KX b o e) ?_
    by_cases hba : b = a
    · cases q : H b with
      | none => rfl
      | some u =>
        rw [hba] at q e
        rw [hK (by rw [q]; simp)] at e
        cases e
    · exact free hba
  have hlim' : (hidT s₁.heap H).NoLimit := let ⟨mc, h1, h2⟩ := hlim; ⟨mc, nsK h1, h2⟩
  have e0 : Env0 P w K mg (hidT s₁.heap H) callerA [] s₁ H :=
    { frames := rfl
      mod := ⟨hKb, nsK hns, ⟨mb, nsK hb, hbb⟩, hlim'⟩
      bs := fun b o e => of_hidT e
      bsz := Nat.le_of_eq (hidT_size _ _)
      funs := trivial
      frf := fun b z => nomatch z
      hok := hok
      bare := .of_eq hg }
  refine codeAny_mono ((F _ hKb (nsK hns)).run callerA [] s₁ H ⟨[.ref a], []⟩ [.ref a] [.ref a] _ _ hr e0 (hbind s₁ (.ref a)) (.cons rfl .nil) hsp) ?_
  intro r s' h
  cases r with
  | error e => exact (callCX0 h).elim
  | ok fl =>
    cases fl with
    | next => exact h.elim
    | brk => exact h.elim
    | cont => exact h.elim
    | ret u =>
      obtain ⟨v, H', os, bare, un, hok', rv, q⟩ := h
      obtain rfl : v = .bl true := q
      obtain rfl : u = Value.bool true := rv
      refine ⟨rfl, OldK.of_keep fun b o e => ?_, os, bare⟩
      rcases hE.only b with n | ⟨_, ob, n⟩
      · exact un.keep b o e n (fun z => nomatch z) (fun z => nomatch z)
      · obtain ⟨e1, _⟩ := hok b _ n
        obtain ⟨e2, _⟩ := hok' b _ (un.frzs b ob _ n)
        rw [e] at e1
        cases e1
        exact e2
theorem law_run (KX : K.In s₁.heap) (hns : s₁.heap.Ns mainGlobals mg) (hb : s₁.heap.Ns builtinsNs mb) (hbb : ∀ x : Str, x ≠ "__name__" → mb x = bootBuiltins x) (hlim : s₁.heap.NoLimit) (hg : s₁.gens = #[])
    (ha : s₁.heap.get? a = some { cls := .type "list", data := .seq vs.toArray }) (hi : IntsAre vs ns) (hl : ns.length ≤ sizeLine) (hr : Rm k callerA)
    (F : ∀ base : Heap, K.In base → base.Ns mainGlobals mg → FnG P w K mg base k fa fd [x] sp) (hbind : ∀ (s : Shared) (u : Value), BindsTo s fd ⟨[u], []⟩ [(x, u)])
    (hsp : ∀ H : Hp, Entry K H a ns → sp [.ref a] H (fun v _ => v = .bl true) fun _ _ _ => False) :
    codeAny (model P w) callerA (.call (.ref fa) ⟨[.ref a], []⟩) (fun r s' => r = .ok (.ret (.bool true)) ∧ OldK s₁.heap s'.heap ∧ s'.os = s₁.os ∧ AllBare s'.gens) s₁ := by
  have rv := vals_ints hi
  cases hk : K.lookup a with
  | some o =>
    have e := KX a o hk
    rw [ha] at e
    cases e
    have E : Entry K (fun _ => none) a ns := ⟨fun _ => .inl rfl, .inr ⟨_, vs.toArray, _, hk, rfl, rfl, rfl, by rw [List.size_toArray, hi.length]; exact hl, by simpa using rv⟩⟩
    exact entry_call KX hns hb hbb hlim hg ha hr F hbind E (fun b u z => nomatch z) (fun z => absurd rfl z) (hsp _ E)
  | none =>
    have E : Entry K (upd (fun _ => none) a (.frz { cls := .type "list", data := .seq vs.toArray } (.lst (ns.map V.int)))) a ns := by
      refine ⟨fun b => ?_, .inl (.inr ⟨_, upd_same⟩)⟩
      by_cases hba : b = a
      · exact .inr ⟨hba, _, by rw [hba]; exact upd_same⟩
      · exact .inl (by rw [upd_ne hba])
    refine entry_call KX hns hb hbb hlim hg ha hr F hbind E (fun b u z => ?_) (fun _ => hk) (hsp _ E)
    by_cases hba : b = a
    · subst hba
      rw [upd_same] at z
      cases z
      exact ⟨ha, by rw [List.length_map]; exact hl, vs, _, rv, ha⟩
    · rw [upd_ne hba] at z
      cases z
end
/-- the goal that k_head leaves, from the law's promise -/
theorem walk_G {l : PySem.W.OpenLaw} {n k : Nat} {q : Program} {loose : List Str} {XP : (Str → Option Value) → Heap → Prop} {YP : World → Heap → Prop} {d : DefRec} {K : Params → PySem.W.Frag} {sp : PySem.W.Frag → Sp} {x : Str}
    (hn : l.most = some n) (hn2 : n ≤ sizeLine) (hdf : d.params.defaults = []) (hr : k ≤ 200)
    (hY : ∀ (w : World) (h : Heap), YP w h → (K w.params).In h)
    (F : ∀ (w : World) (mg : Str → Option Value) (fa : Addr) (h : Heap), (K w.params).In h → h.Ns mainGlobals mg → mg d.name = some (.ref fa) →
      ∃ fd : FuncData, (∀ (s : Shared) (u : Value), BindsTo s fd ⟨[u], []⟩ [(x, u)]) ∧
        ∀ base : Heap, (K w.params).In base → base.Ns mainGlobals mg → FnG l.prog w (K w.params) mg base k fa fd [x] (sp (K w.params)))
    (hsp : ∀ (K : PySem.W.Frag) (H : Hp) (a : Addr) (ns : List Int), ns.length ≤ n → (∀ z ∈ ns, Builtin.Int.intBits z ≤ 1048576) → Entry K H a ns → sp K [.ref a] H (fun v _ => v = .bl true) fun _ _ _ => False) :
    PySem.W.WalkO q loose XP YP l.row.toRowW d [] (fun f vs => PySem.call f vs) := by
  refine Att.attach_callB hn hdf fun w s₀ s₁ mg mb fa o pm cd doc a vs ns G Y ho hd hcd hmg hobj hints hlen hbits hg => ?_
  have KX := hY w _ Y
  obtain ⟨fd, hb, hF⟩ := F w mg fa _ KX G.T.g hmg
  exact law_run KX G.T.g G.T.b G.T.builtins G.T.nolimit hg hobj hints (Nat.le_trans hlen hn2) (rm_caller hr) hF hb fun H E => hsp _ H a ns hlen hbits E
end HS

/-! G5: whole numbers of any size, lists that are not sys.modules. -/
namespace HS
open PySem PySem.Spec PyProof.Rows L2
/-! ### sizes -/
/-- below 2 ^ n in size -/
def Sz (n : Nat) (i : Int) : Prop := i.natAbs < 2 ^ n
theorem Sz.mono {m n : Nat} {i : Int} (h : Sz m i) (l : m ≤ n) : Sz n i := Nat.lt_of_lt_of_le h (Nat.pow_le_pow_right (by decide) l)
theorem Sz.of_lt {n : Nat} {i : Int} (h0 : -(2 ^ n : Nat) < i) (h : i < (2 ^ n : Nat)) : Sz n i := by unfold Sz; omega
theorem Sz.neg {n : Nat} {i : Int} (h : Sz n i) : Sz n (-i) := by unfold Sz at *; rwa [Int.natAbs_neg]
theorem Sz.mul {m n : Nat} {i j : Int} (h : Sz m i) (g : Sz n j) : Sz (m + n) (i * j) := wide_lt h g
theorem Sz.add {m n : Nat} {i j : Int} (h : Sz m i) (g : Sz n j) : Sz (max m n + 1) (i + j) := by
  have h' : Sz (max m n) i := h.mono (Nat.le_max_left ..)
  have g' : Sz (max m n) j := g.mono (Nat.le_max_right ..)
  unfold Sz at *
  rw [Nat.pow_succ]
  omega
theorem Sz.sub {m n : Nat} {i j : Int} (h : Sz m i) (g : Sz n j) : Sz (max m n + 1) (i - j) := by
  rw [Int.sub_eq_add_neg]
  exact h.add g.neg
theorem Sz.abs {n : Nat} {i : Int} (h : Sz n i) : Sz n (if i < 0 then -i else i) := by
  split
  · exact h.neg
  · exact h
theorem Sz.le {n : Nat} {i j : Int} (h : Sz n j) (l : i.natAbs ≤ j.natAbs) : Sz n i := Nat.lt_of_le_of_lt l h
theorem Sz.fdiv {n : Nat} {i : Int} (h : Sz n i) (j : Int) : Sz n (i.fdiv j) := h.le (Int.natAbs_fdiv_le_natAbs i j)
theorem Sz.fmodL {n : Nat} {i j : Int} (h0 : 0 < j) (h : Sz n j) : Sz n (i.fmod j) := by
  have h1 := Int.fmod_nonneg_of_pos i h0
  have h2 := Int.fmod_lt_of_pos i h0
  exact h.le (by omega)
theorem Sz.bits {n : Nat} {i : Int} (h : Sz n i) : Builtin.Int.intBits i ≤ n := intBits_le h
theorem Sz.of_bits {n : Nat} {i : Int} (h : Builtin.Int.intBits i ≤ n) : Sz n i := by
  unfold Sz
  unfold Builtin.Int.intBits at h
  split at h
  · rename_i hz
    have : i.natAbs = 0 := by simpa using hz
    have := Nat.two_pow_pos n
    omega
  · exact Nat.lt_of_lt_of_le Nat.lt_log2_self (Nat.pow_le_pow_right (by decide) h)
theorem Sz.log2 {n : Nat} {i : Int} (h : Sz n i) (h0 : 0 < n) : i.natAbs.log2 < n := PySem.Flt.log2_lt_of h0 h
/-! ### operators -/
def CMulG (i j : Int) : Prop := ∃ a b : Nat, Sz a i ∧ Sz b j ∧ a + b ≤ 134217728
def CDivG (_ j : Int) : Prop := j ≠ 0 ∧ ∃ b : Nat, Sz b j ∧ 0 < b ∧ b ≤ 8000
def CPowG (i j : Int) : Prop := 0 ≤ j ∧ ∃ a : Nat, Sz a i ∧ (a : Int) * j ≤ 134217728
section
variable {X : Cx}
theorem og_mul : OpR X (binaryOp .Mult) (rI CMulG fun i j => .int (i * j)) := opI fun i j _ _ _ _ _ hc q => by
  obtain ⟨a, b, h1, h2, h3⟩ := hc
  exact mul_int q (WideBits_ok h1 h2 h3)
where
  WideBits_ok {i j : Int} {a b : Nat} (h1 : Sz a i) (h2 : Sz b j) (h3 : a + b ≤ 134217728) : IntMulOk i j := by
    have x := h1.bits
    have y := h2.bits
    have e : bitsLine = 134217728 := by decide
    unfold IntMulOk
    intro z
    rw [Bool.and_eq_true] at z
    have z2 := z.2
    unfold Builtin.Int.intTooBig at z2
    have z3 := of_decide_eq_true z2
    rw [e] at z3
    omega
theorem og_fdiv : OpR X (binaryOp .FloorDiv) (rI CDivG fun i j => .int (i.fdiv j)) := opI fun i j _ _ _ _ _ hc q => by
  obtain ⟨h0, b, h1, h2, h3⟩ := hc
  exact floordiv_int h0 q (.inl (PyProof.noPylong_of_log2 (Nat.lt_of_lt_of_le (h1.log2 h2) (by omega))))
theorem og_mod : OpR X (binaryOp .Mod) (rI (fun _ j => j ≠ 0) fun i j => .int (i.fmod j)) := op_modN
theorem og_pow : OpR X (binaryOp .Pow) (rI CPowG fun i j => .int (i ^ j.toNat)) := opI fun i j _ _ _ _ _ hc q => by
  obtain ⟨h0, a, h1, h2⟩ := hc
  refine pow_int h0 ?_ q
  have x := h1.bits
  have : (Builtin.Int.intBits i : Int) * j ≤ (a : Int) * j := Int.mul_le_mul_of_nonneg_right (by omega) h0
  have e : (2 : Int) ^ 27 = 134217728 := by decide
  omega
/-- a written list that is not sys.modules -/
def tLstN (t : TA) : TE := fun σ H Q => t σ H fun xs H1 => xs.length ≤ sizeLine ∧ ∀ p, H1 p = none → p ≠ sysModules → Q (.ref p) (upd H1 p (.lst xs))
theorem pe_lstN {es : List Expr} {t : TA} {pos : Pos} (h : PA X es t) : PE X (.List es pos) (tLstN t) := by
  constructor
  intro pins s σ H Q I hq
  refine wpAny_List_spliced (thn (h.run pos pins s σ H _ I hq) ?_)
  rintro us s1 ⟨xs, H1, I1, r, z, q⟩
  refine ⟨by rw [← r.length]; exact z, ?_⟩
  have hf : H1 s1.heap.objs.size = none := I1.hok.fresh (Nat.le_refl _)
  have hn : s1.heap.objs.size ≠ sysModules := by
    obtain ⟨o, _, _, ho, _⟩ := I1.mod.glob
    have h1 : (3 : Nat) < X.base.objs.size := Heap.lt_size ho
    have h2 : X.base.objs.size ≤ X.s_0.heap.objs.size := I1.ok.bsz
    have h3 : X.s_0.heap.objs.size ≤ s1.heap.objs.size := I1.sz
    intro z
    have h5 : s1.heap.objs.size = (1 : Nat) := z
    omega
  exact ⟨.ref s1.heap.objs.size, upd H1 s1.heap.objs.size (.lst xs), I1.laid (t' := s1.toks) (fun b u e => Heap.get?_push_of_some _ e) (Nat.le_refl _) ⟨z, us, 0, r, Heap.get?_push_size _ rfl⟩, rfl, q _ hf hn⟩
end
end HS

/-! G6: constants of the top, keywords' binding, heaps that grow, the laws' pen. -/
namespace HS
open PySem PySem.Spec PyProof.Rows L2
section
variable {X : Cx}
/-- a module's constant -/
theorem pe_const {x : Str} {v : V} {pos : Pos} (h : ∃ u, X.mg x = some u ∧ RelV v u) (hg : Gl X x := by rfl) (hd : (x == ("__debug__" : Str)) = false := by decide) : PE X (.Name x pos) (tC v) := by
  obtain ⟨u, h1, h2⟩ := h
  exact pe_glob hg h1 h2 hd
end
section
variable {K : PySem.W.Frag} {x qual : Str} {st : Stmt} {f : Addr} {fd : FuncData} {ps ks : List Str} {n : Nat}
theorem bndK (F : Fun K x qual st f fd) (g : List Value → List Value → List Value) (gV : List V → List V → List V)
    (h : ∀ (kV doc pm : Value) (an : Option Addr) (cdv ct : Value) (us ws : List Value), us.length = n → ws.length = ks.length → bindArgs (PySem.W.fnOf x qual (defArgs st) (defBody st) (defScope st) .none kV doc pm an cdv ct) ⟨us, ks.zip ws⟩ = pure (ps.zip (g us ws)))
    (hr : ∀ {vs : List V} {us : List Value} {zs : List V} {ws : List Value}, vs.length = n → zs.length = ks.length → Vals vs us → Vals zs ws → Vals (gV vs zs) (g us ws)) : Bnd K fd ps n ks g gV := by
  obtain ⟨oc, od, kV, doc, pm, an, cdv, ct, osl, rfl, lk, hcd⟩ := F.ex
  exact ⟨fun s us ws _ h1 h2 => .of_eq (h kV doc pm an cdv ct us ws h1 h2), hr⟩
end

/-! ### heaps -/
section
variable {H H' H1 H2 : Hp} {a p : Addr} {o u : HO}
theorem upd_old (hp : H p = none) (h : H a = some o) : upd H p u a = some o := by rw [upd_ne (ne_of_none h hp)]; exact h
theorem same_new (hp : H p = none) : Same H (upd H p u) := fun b o e => upd_old hp e
theorem Same.use (S : Same H H') (h : H a = some o) : H' a = some o := S a o h
/-- all but p is as it was -/
def But (p : Addr) (H H' : Hp) : Prop := ∀ b o, b ≠ p → H b = some o → H' b = some o
theorem But.refl : But p H H := fun _ _ _ h => h
theorem But.of (S : Same H H') : But p H H' := fun b o _ h => S b o h
theorem But.trans (a : But p H H1) (b : But p H1 H2) : But p H H2 := fun c o n h => b c o n (a c o n h)
theorem But.use (S : But p H H') (n : a ≠ p) (h : H a = some o) : H' a = some o := S a o n h
theorem But.upd : But p H (upd H p u) := fun b o n h => by rw [upd_ne n]; exact h
theorem But.same (S : But p H H1) (T : Same H1 H2) : But p H H2 := fun b o n h => T b o (S b o n h)
theorem But.free (S : But p H H') (hp : ∃ o, H' p = some o) (e : H' a = none) : H a = none := by
  cases q : H a with
  | none => rfl
  | some o =>
    by_cases h : a = p
    · obtain ⟨o', e'⟩ := hp
      rw [h, e'] at e
      cases e
    · rw [S a o h q] at e
      cases e
theorem none_of_upd (e : upd H p u a = none) : a ≠ p ∧ H a = none := by
  by_cases h : a = p
  · rw [h, upd_same] at e
    cases e
  · rw [upd_ne h] at e
    exact ⟨h, e⟩
end

/-! ### the laws' pen -/
/-- at p: the cells (at c), how many were begun (at most n), what is left of a great one -/
structure Pen (n : Nat) (c : Addr) (H : Hp) (p : Addr) : Prop where
  ex : ∃ (ns : List Int) (b g : Int), H p = some (.lst [.ref c, .int b, .int g]) ∧ H c = some (.lst (ns.map V.int)) ∧ c ≠ p ∧ 0 ≤ b ∧ b ≤ n ∧ 0 ≤ g ∧ Sz 1048600 g ∧ (∀ z ∈ ns, Sz 1048576 z) ∧ ns.length ≤ 63
section
variable {m n : Nat} {H H' : Hp} {p a c q : Addr} {u : HO}
theorem Pen.mono (h : Pen m c H p) (l : m ≤ n) : Pen n c H p := by
  obtain ⟨ns, b, g, h1, h2, h3, h4, h5, h6⟩ := h.ex
  exact ⟨ns, b, g, h1, h2, h3, h4, by omega, h6⟩
theorem Pen.at (h : Pen n c H p) : ∃ o, H p = some o := by
  obtain ⟨ns, b, g, h1, _⟩ := h.ex
  exact ⟨_, h1⟩
theorem Pen.same (h : Pen n c H p) (S : Same H H') : Pen n c H' p := by
  obtain ⟨ns, b, g, h1, h2, h3⟩ := h.ex
  exact ⟨ns, b, g, S _ _ h1, S _ _ h2, h3⟩
theorem Pen.ne (h : Pen n c H p) (e : H a = none) : a ≠ p := by
  obtain ⟨o, q⟩ := h.at
  exact (ne_of_none q e).symm
theorem Pen.neC (h : Pen n c H p) (e : H a = none) : a ≠ c := by
  obtain ⟨ns, b, g, h1, h2, h3⟩ := h.ex
  exact (ne_of_none h2 e).symm
theorem Pen.put (h : Pen n c H p) (e : q ≠ p) (e2 : q ≠ c) : Pen n c (upd H q u) p := by
  obtain ⟨ns, b, g, h1, h2, h3⟩ := h.ex
  exact ⟨ns, b, g, by rw [upd_ne e.symm]; exact h1, by rw [upd_ne e2.symm]; exact h2, h3⟩
theorem But.put (S : But p H H') (e : H q = none) : But p H (L2.upd H' q u) := fun b o n h => by rw [upd_ne (ne_of_none h e)]; exact S b o n h
end
def spPen (K : PySem.W.Frag) : Sp := fun vs H Q _ => ∃ (a : Addr) (ns : List Int), vs = [.ref a] ∧ SqL K H a (ns.map V.int) ∧ ns.length ≤ 63 ∧ (∀ z ∈ ns, Sz 1048576 z) ∧
  ∀ (p c : Addr) (H' : Hp), H p = none → H c = none → Pen 0 c H' p → Same H H' → Q (.ref p) H'
def spDraw : Sp := fun vs H Q _ => ∃ (p c : Addr) (m : Int) (n : Nat), vs = [.ref p, .int m] ∧ Pen n c H p ∧ n ≤ 1000000000 ∧ 0 < m ∧ Sz 4000 m ∧
  ∀ (r : Int) (H' : Hp), 0 ≤ r → r < m → Pen (n + 1) c H' p → But p H H' → Q (.int r) H'
theorem dp_ints {K : PySem.W.Frag} {H : Hp} : ∀ (ns : List Int), DpAll K H (ns.map V.int) (ns.map PyData.int)
  | [] => .nil
  | n :: ns => .cons (.int n) (dp_ints ns)
theorem shaped_ints : ∀ (ns : List Int), SeqAt.shaped (.list (ns.map PyData.int)) = true := by
  intro ns
  induction ns with
  | nil => rfl
  | cons n ns ih => first | exact ih | simpa [SeqAt.shaped] using ih
theorem eqv_nil (ns : List Int) : PyData.eqv (.list (ns.map PyData.int)) (.list []) = ns.isEmpty := by
  cases ns <;> simp [PyData.eqv, PyData.eqvAll]
end HS

/-! G7: heaps without the pen, loops and list comprehensions by the values they run over, picking. -/
namespace HS
open PySem PySem.Spec PyProof.Rows L2
section
variable {K : PySem.W.Frag} {H H' H1 : Hp} {a p : Addr} {o u : HO} {v : V} {d : PyData} {vs : List V} {ds : List PyData}
/-- the heap without p -/
def Hd (p : Addr) (H : Hp) : Hp := fun a => if a = p then none else H a
theorem Hd.of (n : a ≠ p) (h : H a = some o) : Hd p H a = some o := by unfold Hd; rw [if_neg n]; exact h
theorem Hd.same : Same (Hd p H) H := fun b o e => by
  unfold Hd at e
  split at e
  · cases e
  · exact e
theorem Hd.ne (h : Hd p H a = some o) : a ≠ p := by
  rintro rfl
  unfold Hd at h
  rw [if_pos rfl] at h
  cases h
theorem But.hd (b : But p H H') : Same (Hd p H) (Hd p H') := fun c o e => Hd.of (Hd.ne e) (b c o (Hd.ne e) (Hd.same c o e))
theorem But.sub (b : But p H H') : Same (Hd p H) H' := fun c o e => b c o (Hd.ne e) (Hd.same c o e)
theorem Same.hd (b : Same H H') : Same (Hd p H) (Hd p H') := (But.of b).hd
theorem Same.trans {H2 : Hp} (a : Same H H1) (b : Same H1 H2) : Same H H2 := fun c o e => b c o (a c o e)
theorem Same.refl : Same H H := fun _ _ e => e
theorem Same.upd (S : Same H H') (h : H a = none) : Same H (upd H' a u) := fun b o e => by rw [upd_ne (ne_of_none e h)]; exact S b o e
theorem RdA.mem : ∀ {vs : List V} {ds : List PyData}, RdA K H vs ds → v ∈ vs → ∃ d ∈ ds, Rd K H v d
  | _, _, .nil, h => by cases h
  | _, _, .cons (vs := vs) r t, h => by
    rcases List.mem_cons.mp h with rfl | h
    · exact ⟨_, List.mem_cons_self, r⟩
    · obtain ⟨d, m, q⟩ := RdA.mem t h
      exact ⟨d, List.mem_cons_of_mem _ m, q⟩
theorem RdA.get : ∀ {vs : List V} {ds : List PyData}, RdA K H vs ds → ∀ {i : Nat}, vs[i]? = some v → ∃ d, ds[i]? = some d ∧ Rd K H v d
  | _, _, .nil, i, h => by simp at h
  | _, _, .cons r t, 0, h => by
    cases h
    exact ⟨_, rfl, r⟩
  | _, _, .cons r t, i + 1, h => RdA.get t (by simpa using h)
theorem RdA.app : ∀ {vs ws : List V} {ds es : List PyData}, RdA K H vs ds → RdA K H ws es → RdA K H (vs ++ ws) (ds ++ es)
  | _, _, _, _, .nil, q => q
  | _, _, _, _, .cons r t, q => .cons r (RdA.app t q)
end
/-! ### runs -/
/-- what is run over, as long as G stands -/
structure Runs (J : It) (xs : List V) (G : Hp → Prop) : Prop where
  stop : ∀ H, G H → J.stop xs.length H
  go : ∀ i H, i < xs.length → G H → J.go i H
  yld : ∀ i H x H', G H → J.yld i H x H' → H' = H ∧ xs[i]? = some x ∨ xs.length ≤ i
theorem runs_rng (lo : Int) (n : Nat) : Runs (Itr lo n) ((List.range n).map fun k => V.int (lo + (k : Nat))) (fun _ => True) :=
  ⟨fun _ _ => by show n ≤ _; simp, fun i _ h _ => by show i < n; simpa using h, fun i H x H' _ h => by
    obtain ⟨e, rfl⟩ := h
    by_cases q : i < n
    · exact .inl ⟨e, by simp [q]⟩
    · exact .inr (by simpa using q)⟩
theorem runs_str (x : Str) : Runs (Its x) (x.cps.toList.map fun c => V.str ⟨#[c]⟩) (fun _ => True) :=
  ⟨fun _ _ => by show x.cps.size ≤ _; simp, fun i _ h _ => by show i < x.cps.size; simpa using h, fun i H y H' _ h => by
    obtain ⟨e, c, hc, rfl⟩ := h
    exact .inl ⟨e, by simp [hc]⟩⟩
theorem runs_list {K : PySem.W.Frag} {a : Addr} {xs : List V} : Runs (Itl K a) xs (fun H => SqL K H a xs) :=
  ⟨fun _ g => ⟨xs, g, Nat.le_refl _⟩, fun i _ h g => ⟨xs, xs[i], g, by simp [h]⟩, fun i H y H' g h => .inl ⟨h.1, h.2 xs g⟩⟩
theorem runs_tup {K : PySem.W.Frag} {a : Addr} {xs : List V} : Runs (Itt K a) xs (fun H => SqT K H a xs) :=
  ⟨fun _ g => ⟨xs, g, Nat.le_refl _⟩, fun i _ h g => ⟨xs, xs[i], g, by simp [h]⟩, fun i H y H' g h => .inl ⟨h.1, h.2 xs g⟩⟩
section
variable {J : It} {xs : List V} {G : Hp → Prop} {σ : L2.St} {H1 : Hp} {Q : VK} {i : Nat} {te : TE} {tt : TT} {Dn : Ends} {g : TG} {tb : TS} {vs : List Nat}
/-- what a block asks of what it runs over -/
@[irreducible] def LcB (J : It) (g : TG) (tt : TT) (te : TE) (vs : List Nat) (σ : L2.St) (Q : VK) (D : Addr) (H1 : Hp) : Prop :=
    ∃ W : Nat → Nat → Hp → Prop, (∃ m, W 0 m (upd H1 D (.lst []))) ∧ ∀ k m H, W k m H →
      (J.stop k H ∧ Q (.ref D) H) ∨ (J.go k H ∧ ∃ Nx : Hp → Prop, (∀ H', Nx H' → ∃ m', m' < m ∧ W (k + 1) m' H') ∧ ∀ x H', J.yld k H x H' → g x (wipe σ vs) H' fun σ2 H2 => wipe σ2 vs = wipe σ vs ∧ tt σ2 H2 fun b H3 =>
        if b = true then te σ2 H3 fun y H4 => ∃ acc, H4 D = some (.lst acc) ∧ acc.length < sizeLine ∧ Nx (upd H4 D (.lst (acc ++ [y]))) else Nx H3)
/-- a list comprehension's reading, kept whole -/
@[irreducible] def tLcO (wi : TI) (g : TG) (tt : TT) (te : TE) (vs : List Nat) : TE := tLc wi g tt te vs
theorem tLc_mk {wi : TI} {H : Hp} (h : wi σ H fun J H1 => ∀ D, H1 D = none → LcB J g tt te vs σ Q D H1) : tLcO wi g tt te vs σ H Q := by
  unfold tLcO
  unfold LcB at h
  exact h
/-- what a loop asks of what it runs over -/
@[irreducible] def FoB (J : It) (g : TG) (tb : TS) (Dn : Ends) (σ : L2.St) (H1 : Hp) : Prop :=
    ∃ W : Nat → Nat → L2.St → Hp → Prop, (∃ m, W 0 m σ H1) ∧ ∀ i m σ H, W i m σ H →
      (J.stop i H ∧ Dn.nx σ H) ∨ (J.go i H ∧ ∃ N : L2.St → Hp → Prop, (∀ σ' H', N σ' H' → ∃ m', m' < m ∧ W (i + 1) m' σ' H') ∧ ∀ x H', J.yld i H x H' → g x σ H' fun σ2 H2 => tb { Dn with nx := N, ct := N, bk := Dn.nx } σ2 H2)
/-- a loop's reading, kept whole -/
@[irreducible] def tForO (wi : TI) (g : TG) (tb : TS) : TS := tFor wi g tb
theorem tFor_mk {wi : TI} {H : Hp} (h : wi σ H fun J H1 => FoB J g tb Dn σ H1) : tForO wi g tb Dn σ H := by
  unfold tForO
  unfold FoB at h
  exact h
/-- behind k turns of a block -/
def LcN (I : Nat → List V → Hp → Prop) (n k : Nat) (H : Hp) : Prop := ∃ acc, acc.length = k ∧ k ≤ n ∧ I k acc H
/-- what the element of the k-th turn is to reach -/
@[irreducible] def LcNx (I : Nat → List V → Hp → Prop) (D : Addr) (n k : Nat) : VK := fun y H4 => ∃ acc, H4 D = some (.lst acc) ∧ acc.length < sizeLine ∧ LcN I n (k + 1) (upd H4 D (.lst (acc ++ [y])))
theorem LcNx.mk {I : Nat → List V → Hp → Prop} {D : Addr} {n k : Nat} {y : V} {H4 : Hp} {acc : List V} (h : H4 D = some (.lst acc)) (l : acc.length = k) (hk : k < n) (hn : n ≤ sizeLine) (q : I (k + 1) (acc ++ [y]) (upd H4 D (.lst (acc ++ [y])))) : LcNx I D n k y H4 := by
  unfold LcNx
  exact ⟨acc, h, by omega, _, by simp [l], hk, q⟩
theorem wipe1 {σ : L2.St} {i : Nat} {x : V} : wipe ((wipe σ [i]).set i (some x)) [i] = wipe σ [i] := by
  show ((σ.set i none).set i (some x)).set i none = σ.set i none
  rw [List.set_set, List.set_set]
/-- the block of a list comprehension, one name running -/
theorem lc_in (R : Runs J xs G) (hn : xs.length ≤ sizeLine) {D : Addr} (I : Nat → List V → Hp → Prop)
    (h0 : I 0 [] (upd H1 D (.lst []))) (hD : ∀ k acc H, I k acc H → H D = some (.lst acc) ∧ G H)
    (step : ∀ k acc H x, I k acc H → acc.length = k → k < xs.length → xs[k]? = some x → te ((wipe σ [i]).set i (some x)) H (LcNx I D xs.length k))
    (fin : ∀ acc H, I xs.length acc H → acc.length = xs.length → Q (.ref D) H) :
    LcB J (gName i) tYes te [i] σ Q D H1 := by
  unfold LcNx at step
  unfold LcB
  refine ⟨fun k m H => m = xs.length - k ∧ LcN I xs.length k H, ⟨_, rfl, [], rfl, Nat.zero_le _, h0⟩, ?_⟩
  rintro k m H ⟨rfl, acc, hl, hk, hI⟩
  obtain ⟨e1, e2⟩ := hD _ _ _ hI
  by_cases h : k < xs.length
  · refine .inr ⟨R.go _ _ h e2, LcN I xs.length (k + 1), fun H' h1 => ⟨xs.length - (k + 1), by omega, rfl, h1⟩, fun x H' y => ?_⟩
    rcases R.yld _ _ _ _ e2 y with ⟨rfl, hx⟩ | z
    · exact ⟨wipe1, step k acc _ x hI hl h hx⟩
    · omega
  · have e : k = xs.length := by omega
    subst e
    exact .inl ⟨R.stop _ e2, fin _ _ hI hl⟩
/-- behind k turns of a block with a condition -/
def LfN (I : Nat → List V → Hp → Prop) (n k : Nat) (H : Hp) : Prop := ∃ acc, acc.length ≤ k ∧ k ≤ n ∧ I k acc H
@[irreducible] def LfNx (I : Nat → List V → Hp → Prop) (D : Addr) (n k : Nat) : VK := fun y H4 => ∃ acc, H4 D = some (.lst acc) ∧ acc.length < sizeLine ∧ LfN I n (k + 1) (upd H4 D (.lst (acc ++ [y])))
theorem LfNx.mk {I : Nat → List V → Hp → Prop} {D : Addr} {n k : Nat} {y : V} {H4 : Hp} {acc : List V} (h : H4 D = some (.lst acc)) (l : acc.length ≤ k) (hk : k < n) (hn : n ≤ sizeLine) (q : I (k + 1) (acc ++ [y]) (upd H4 D (.lst (acc ++ [y])))) : LfNx I D n k y H4 := by
  unfold LfNx
  exact ⟨acc, h, by omega, _, by simp; omega, hk, q⟩
/-- the block of a list comprehension, any target, a condition -/
theorem lcf_in (R : Runs J xs G) (hn : xs.length ≤ sizeLine) {D : Addr} (I : Nat → List V → Hp → Prop)
    (h0 : I 0 [] (upd H1 D (.lst []))) (hD : ∀ k acc H, I k acc H → H D = some (.lst acc) ∧ G H)
    (step : ∀ k acc H x, I k acc H → acc.length ≤ k → k < xs.length → xs[k]? = some x → g x (wipe σ vs) H fun σ2 H2 => wipe σ2 vs = wipe σ vs ∧ tt σ2 H2 fun b H3 => if b = true then te σ2 H3 (LfNx I D xs.length k) else LfN I xs.length (k + 1) H3)
    (fin : ∀ acc H, I xs.length acc H → acc.length ≤ xs.length → Q (.ref D) H) :
    LcB J g tt te vs σ Q D H1 := by
  unfold LfNx at step
  unfold LcB
  refine ⟨fun k m H => m = xs.length - k ∧ LfN I xs.length k H, ⟨_, rfl, [], Nat.le_refl _, Nat.zero_le _, h0⟩, ?_⟩
  rintro k m H ⟨rfl, acc, hl, hk, hI⟩
  obtain ⟨e1, e2⟩ := hD _ _ _ hI
  by_cases h : k < xs.length
  · refine .inr ⟨R.go _ _ h e2, LfN I xs.length (k + 1), fun H' h1 => ⟨xs.length - (k + 1), by omega, rfl, h1⟩, fun x H' y => ?_⟩
    rcases R.yld _ _ _ _ e2 y with ⟨rfl, hx⟩ | z
    · exact step k acc _ x hI hl h hx
    · omega
  · have e : k = xs.length := by omega
    subst e
    exact .inl ⟨R.stop _ e2, fin _ _ hI hl⟩
/-- a for loop -/
theorem for_in (R : Runs J xs G) (I : Nat → L2.St → Hp → Prop) (h0 : I 0 σ H1) (hG : ∀ k σ H, I k σ H → G H)
    (step : ∀ k σ H x, I k σ H → k < xs.length → xs[k]? = some x → g x σ H fun σ2 H2 => tb { Dn with nx := I (k + 1), ct := I (k + 1), bk := Dn.nx } σ2 H2)
    (fin : ∀ σ H, I xs.length σ H → Dn.nx σ H) :
    FoB J g tb Dn σ H1 := by
  unfold FoB
  refine ⟨fun k m σ H => m = xs.length - k ∧ k ≤ xs.length ∧ I k σ H, ⟨_, rfl, Nat.zero_le _, h0⟩, ?_⟩
  rintro k m σ H ⟨rfl, hk, hI⟩
  have e2 := hG _ _ _ hI
  by_cases h : k < xs.length
  · refine .inr ⟨R.go _ _ h e2, I (k + 1), fun σ' H' h1 => ⟨xs.length - (k + 1), by omega, rfl, h, h1⟩, fun x H' y => ?_⟩
    rcases R.yld _ _ _ _ e2 y with ⟨rfl, hx⟩ | z
    · exact step k σ _ x hI h hx
    · omega
  · have e : k = xs.length := by omega
    subst e
    exact .inl ⟨R.stop _ e2, fin _ _ hI⟩
end
section
variable {X : Cx}
theorem pe_lcO {elt tg iter : Expr} {ifs : List Expr} {scope : Scope} {own : List (Str × Nat)} {pos : Pos} {wi : TI} {g : TG} {tt : TT} {te : TE} (hc : X.calm = true) (hN : X.N.Nodup) (hi : PI X tg iter wi) (ok : BlkOk X.N X.env.scope scope own)
    (hg : ∀ (s : Shared) (H : Hp) (C : Addr) (cl : List (Str × Addr)) (fp : List Addr), PG (X.blk s H scope (compEnvC scope cl C X.env) fp) tg g) (ht : ∀ (s : Shared) (H : Hp) (C : Addr) (cl : List (Str × Addr)) (fp : List Addr), PTs (X.blk s H scope (compEnvC scope cl C X.env) fp) ifs tt)
    (he : ∀ (s : Shared) (H : Hp) (C : Addr) (cl : List (Str × Addr)) (fp : List Addr), PE (X.blk s H scope (compEnvC scope cl C X.env) fp) elt te) (hs : ∀ x, foldedSetIterable iter X.env x = pure x := by intro _; rfl) :
    PE X (.ListComp elt [⟨tg, iter, ifs, 0⟩] scope pos) (tLcO wi g tt te (own.map (·.2))) := by
  unfold tLcO
  exact pe_lc hc hN hi ok hg ht he hs
theorem ps_forO {tg iter : Expr} {body : List Stmt} {wi : TI} {g : TG} {tb : TS} {pos : Pos} (hp : PassesOwn (model X.prog X.w) X.A X.env X.xe) (hc : X.calm = true) (hi : PI X tg iter wi) (hg : PG X tg g) (hb : PSs X body tb)
    (hs : ∀ x, foldedSetIterable iter X.env x = pure x := by intro _; rfl) : PS X (.For tg iter body [] pos) (tForO wi g tb) := by
  unfold tForO
  exact ps_for hp hc hi hg hb hs
end
/-! ### picking -/
/-- what can be picked from x -/
def Pk (K : PySem.W.Frag) (H : Hp) (x : V) (xs : List V) : Prop := (∃ a, x = .ref a ∧ (SqL K H a xs ∨ SqT K H a xs)) ∨ (∃ z : Str, x = .str z ∧ z.length ≤ sizeLine ∧ xs = z.cps.toList.map fun c => V.str ⟨#[c]⟩)
theorem Pk.same {K : PySem.W.Frag} {H H' : Hp} {x : V} {xs : List V} (e : Same H H') (h : Pk K H x xs) : Pk K H' x xs := by
  rcases h with ⟨a, h1, h | h⟩ | h
  · exact .inl ⟨a, h1, .inl (L2.Same.seq e h)⟩
  · exact .inl ⟨a, h1, .inr (Same.tup e h)⟩
  · exact .inr h
theorem Pk.len {K : PySem.W.Frag} {H : Hp} {x : V} {xs : List V} (h : Pk K H x xs) : LenV K x H xs.length := by
  rcases h with ⟨a, rfl, h | h⟩ | ⟨z, rfl, h, rfl⟩
  · exact .inl ⟨_, h, rfl⟩
  · exact .inr ⟨_, h, rfl⟩
  · exact ⟨h, by simp [Str.length]⟩
theorem Pk.ix {K : PySem.W.Frag} {H : Hp} {x : V} {xs : List V} (h : Pk K H x xs) {r : Int} (h0 : 0 ≤ r) (h1 : r < xs.length) {Q : VK} (q : ∀ v ∈ xs, Q v H) : rIx K x (.int r) H Q := by
  obtain ⟨i, rfl⟩ : ∃ i : Nat, r = i := ⟨r.toNat, by omega⟩
  have hi : i < xs.length := by omega
  rcases h with ⟨a, rfl, h | h⟩ | ⟨z, rfl, h, rfl⟩
  · exact .inl ⟨a, xs, _, _, rfl, rfl, h, atI_nat (v := xs[i]) (by simp [hi]), q _ (List.getElem_mem _)⟩
  · exact .inr (.inl ⟨a, xs, _, _, rfl, rfl, h, atI_nat (v := xs[i]) (by simp [hi]), q _ (List.getElem_mem _)⟩)
  · have hi' : i < z.cps.toList.length := by simpa using hi
    exact .inr (.inr ⟨z, _, _, rfl, rfl, h, atI_nat (v := z.cps.toList[i]) (by simp [hi']), q _ (List.mem_map.mpr ⟨_, List.getElem_mem hi', rfl⟩)⟩)
def spPick (K : PySem.W.Frag) : Sp := fun vs H Q _ => ∃ (p c : Addr) (x : V) (xs : List V) (n : Nat), vs = [.ref p, x] ∧ Pen n c H p ∧ n ≤ 1000000000 ∧ Pk K (Hd p H) x xs ∧ 0 < xs.length ∧ xs.length ≤ 1000000 ∧
  ∀ v ∈ xs, ∀ H' : Hp, Pen (n + 1) c H' p → But p H H' → Q v H'
end HS

/-! G8: data: its type, how long its text is. -/
namespace HS
open PySem PySem.Spec PyProof.Rows L2
/-! ### types of data -/
def tyD : PyData → String
  | .none => "NoneType"
  | .bool _ => "bool"
  | .int _ => "int"
  | .str _ => "str"
  | .list _ => "list"
  | .tuple _ => "tuple"
  | .dict _ => "dict"
/-- isinstance(d, n) -/
def isD (n : String) (d : PyData) : Bool := tyD d == n || (n == "int" && tyD d == "bool")
theorem kit_ty (K : PySem.W.Frag) {n : String} (h : n ∈ ["str", "int", "bool", "list", "tuple", "dict"]) (d : PyData) : PySem.W.kitOne K (.type (tyD d)) (.type n) = some (isD n d) := by
  simp only [List.mem_cons, List.mem_nil_iff, or_false] at h
  rcases h with rfl | rfl | rfl | rfl | rfl | rfl <;> cases d <;> rfl
section
variable {K : PySem.W.Frag} {H : Hp} {v : V} {d : PyData}
theorem Rd.ty (h : Rd K H v d) : Ty K H v (.type (tyD d)) := by
  cases h with
  | non => exact .x (.base .non)
  | bl b => exact .x (.base (.bl b))
  | int i => exact .x (.base (.int i))
  | str x => exact .x (.base (.str x))
  | lst s n t =>
    rcases s with (s | ⟨o, s⟩) | ⟨o, its, n, e, c, _⟩
    · exact .x (.base (.lst s))
    · exact .x (.base (.frz s))
    · exact .x (.kList e c)
  | tup s t =>
    rcases s with (s | ⟨o, s⟩) | ⟨o, its, n, e, c, _⟩
    · exact .x (.base (.tup s))
    · exact .x (.fTuple s)
    · exact .x (.kTuple e c)
  | dct e l t => exact .x (.base (.dK e))
theorem is_of {n : String} (hn : n ∈ ["str", "int", "bool", "list", "tuple", "dict"]) (r : Rd K H v d) {Q : VK} (q : Q (.bl (isD n d)) H) : rIs K [v, .ty n] H Q :=
  rIs_mk (.ty n) r.ty (kit_ty K hn d) q
end
/-! ### how long a text is -/
/-- what can be shown: its text at most n signs long, at most k deep -/
structure Sm (n k : Nat) (d : PyData) : Prop where
  sh : d.showable = true
  dep : d.depth ≤ k
  len : d.shown.length ≤ n
theorem Sm.mono {n m k j : Nat} {d : PyData} (h : Sm n k d) (l : n ≤ m) (g : k ≤ j) : Sm m j d := ⟨h.sh, Nat.le_trans h.dep g, Nat.le_trans h.len l⟩
theorem Sm.none {n k : Nat} (h : 4 ≤ n := by omega) : Sm n k .none := ⟨rfl, Nat.zero_le _, Nat.le_trans (by decide : (PyData.shown .none).length ≤ 4) h⟩
theorem Sm.bool {n k : Nat} (b : Bool) (h : 5 ≤ n := by omega) : Sm n k (.bool b) := ⟨rfl, Nat.zero_le _, Nat.le_trans (by cases b <;> decide) h⟩
theorem Sm.str {n k : Nat} {x : Str} (hx : ∀ c ∈ x.cps.toList, c < 16 ^ 8) (h : 10 * x.length + 2 ≤ n) : Sm n k (.str x) := ⟨rfl, Nat.zero_le _, Nat.le_trans (StrLaws.reprText_len x hx) h⟩
theorem Sm.int {n k : Nat} {i : Int} (h : Sz (n - 1) i) (hn : 1 < n) (hb : n ≤ 1921) : Sm n k (.int i) := by
  refine ⟨?_, Nat.zero_le _, ?_⟩
  · simp only [PyData.showable, decide_eq_true_eq]
    exact PySem.Flt.log2_lt_of (by decide) (Nat.lt_of_lt_of_le h (Nat.pow_le_pow_right (by decide) (by omega)))
  · show (Str.ofString (toString i)).length ≤ n
    rw [PySem.ofString_length]
    have q := nat_repr_length_le (n := i.natAbs) (k := n - 1) (by omega) h
    cases i with
    | ofNat m =>
      have e : toString (Int.ofNat m) = Nat.repr m := rfl
      rw [e]
      exact Nat.le_trans q (by omega)
    | negSucc m =>
      have e : toString (Int.negSucc m) = "-" ++ Nat.repr (m + 1) := rfl
      rw [e, String.length_append]
      have q' : (Nat.repr (m + 1)).length ≤ n - 1 := q
      have : ("-" : String).length = 1 := rfl
      omega
theorem shownAll_mem : ∀ {ds : List PyData} {t : Str}, t ∈ PyData.shownAll ds → ∃ d ∈ ds, t = d.shown
  | [], _, h => by cases h
  | d :: ds, t, h => by
    rcases List.mem_cons.mp h with rfl | h
    · exact ⟨d, List.mem_cons_self, rfl⟩
    · obtain ⟨e, m, q⟩ := shownAll_mem h
      exact ⟨e, List.mem_cons_of_mem _ m, q⟩
theorem shownAll_length : ∀ (ds : List PyData), (PyData.shownAll ds).length = ds.length
  | [] => rfl
  | d :: ds => congrArg Nat.succ (shownAll_length ds)
theorem piled_le (ts : List Str) {n : Nat} (h : ∀ t ∈ ts, t.length ≤ n) : piled ts ≤ ts.length * (n + 2) := by
  induction ts with
  | nil => simp [piled]
  | cons t ts ih =>
    have h1 := h t List.mem_cons_self
    have h2 := ih fun u m => h u (List.mem_cons_of_mem _ m)
    rw [piled_cons, List.length_cons, Nat.succ_mul]
    omega
theorem textFrom_le : ∀ (ts : List Str) (k : Nat) (acc : Str), (textFrom k acc ts).length ≤ acc.length + piled ts
  | [], k, acc => Nat.le_add_right _ _
  | t :: r, k, acc => by
    have q := textFrom_le r (k + 1) (acc ++ (if k > 0 then ", " else "" : String) ++ t)
    have e : (acc ++ (if k > 0 then ", " else "" : String) ++ t).length = acc.length + (if k > 0 then 2 else 0) + t.length := by
      rw [strLen_append, strLen_append]
      split <;> rfl
    rw [e] at q
    rw [piled_cons]
    have e2 : (if k > 0 then 2 else 0 : Nat) ≤ 2 := by split <;> omega
    show (textFrom (k + 1) (acc ++ (if k > 0 then ", " else "" : String) ++ t) r).length ≤ _
    omega
theorem showableAll_mem : ∀ {ds : List PyData}, (∀ d ∈ ds, d.showable = true) → PyData.showableAll ds = true
  | [], _ => rfl
  | d :: ds, h => by
    simp only [PyData.showableAll, Bool.and_eq_true]
    exact ⟨h d List.mem_cons_self, showableAll_mem fun e m => h e (List.mem_cons_of_mem _ m)⟩
theorem depthAll_mem {k : Nat} : ∀ {ds : List PyData}, (∀ d ∈ ds, d.depth ≤ k) → PyData.depthAll ds ≤ k
  | [], _ => by simp [PyData.depthAll]
  | d :: ds, h => by
    have h1 := h d List.mem_cons_self
    have h2 := depthAll_mem (k := k) (ds := ds) fun e m => h e (List.mem_cons_of_mem _ m)
    simp only [PyData.depthAll]
    omega
theorem Sm.list {m n k : Nat} {ds : List PyData} (h : ∀ d ∈ ds, Sm n k d) (l : 2 + ds.length * (n + 2) ≤ m) : Sm m (k + 1) (.list ds) := by
  refine ⟨showableAll_mem fun d m => (h d m).sh, ?_, ?_⟩
  · simp only [PyData.depth]
    exact Nat.succ_le_succ (depthAll_mem fun d m => (h d m).dep)
  · have q := textFrom_le (PyData.shownAll ds) 0 "["
    have p := piled_le (PyData.shownAll ds) (n := n) fun t ht => by
      obtain ⟨d, hd, rfl⟩ := shownAll_mem ht
      exact (h d hd).len
    rw [shownAll_length] at p
    show (listText (PyData.shownAll ds)).length ≤ m
    unfold listText
    rw [strLen_append]
    have e1 : ((("[" : String) : Str)).length = 1 := rfl
    have e2 : ((("]" : String) : Str)).length = 1 := rfl
    omega
theorem Sm.tuple {m n k : Nat} {ds : List PyData} (h : ∀ d ∈ ds, Sm n k d) (l : 3 + ds.length * (n + 2) ≤ m) : Sm m (k + 1) (.tuple ds) := by
  refine ⟨showableAll_mem fun d m => (h d m).sh, ?_, ?_⟩
  · simp only [PyData.depth]
    exact Nat.succ_le_succ (depthAll_mem fun d m => (h d m).dep)
  · have p := piled_le (PyData.shownAll ds) (n := n) fun t ht => by
      obtain ⟨d, hd, rfl⟩ := shownAll_mem ht
      exact (h d hd).len
    rw [shownAll_length] at p
    show (tupleText (PyData.shownAll ds)).length ≤ m
    unfold tupleText
    rw [strLen_append, strLen_append]
    have e1 : ((("(" : String) : Str)).length = 1 := rfl
    have e3 : (((if (PyData.shownAll ds).length == 1 then ",)" else ")" : String) : Str)).length ≤ 2 := by split <;> decide
    by_cases h : PyData.shownAll ds = []
    · rw [h] at e3 ⊢
      have : (Str.join ", " []).length = 0 := rfl
      omega
    · have := join_length_add (PyData.shownAll ds) h
      omega
theorem shownKv_mem : ∀ {ds : List (PyData × PyData)} {t : Str}, t ∈ PyData.shownKv ds → ∃ d ∈ ds, t = d.1.shown ++ ": " ++ d.2.shown
  | [], _, h => by cases h
  | (d, f) :: ds, t, h => by
    rcases List.mem_cons.mp h with rfl | h
    · exact ⟨(d, f), List.mem_cons_self, rfl⟩
    · obtain ⟨e, m, q⟩ := shownKv_mem h
      exact ⟨e, List.mem_cons_of_mem _ m, q⟩
theorem shownKv_length : ∀ (ds : List (PyData × PyData)), (PyData.shownKv ds).length = ds.length
  | [] => rfl
  | (d, e) :: ds => congrArg Nat.succ (shownKv_length ds)
theorem showableKv_mem : ∀ {ds : List (PyData × PyData)}, (∀ d ∈ ds, d.1.showable = true ∧ d.2.showable = true) → PyData.showableKv ds = true
  | [], _ => rfl
  | (d, f) :: ds, h => by
    obtain ⟨h1, h2⟩ := h (d, f) List.mem_cons_self
    simp only [PyData.showableKv, Bool.and_eq_true]
    exact ⟨⟨h1, h2⟩, showableKv_mem fun e m => h e (List.mem_cons_of_mem _ m)⟩
theorem depthKv_mem {k : Nat} : ∀ {ds : List (PyData × PyData)}, (∀ d ∈ ds, d.1.depth ≤ k ∧ d.2.depth ≤ k) → PyData.depthKv ds ≤ k
  | [], _ => by simp [PyData.depthKv]
  | (d, f) :: ds, h => by
    obtain ⟨h1, h3⟩ := h (d, f) List.mem_cons_self
    have h2 := depthKv_mem (k := k) (ds := ds) fun e m => h e (List.mem_cons_of_mem _ m)
    simp only [PyData.depthKv]
    simp only at h1 h3
    omega
theorem Sm.dict {m n k : Nat} {ds : List (PyData × PyData)} (h : ∀ d ∈ ds, Sm n k d.1 ∧ Sm n k d.2) (l : 2 + ds.length * (2 * n + 4) ≤ m) : Sm m (k + 1) (.dict ds) := by
  refine ⟨showableKv_mem fun d m => ⟨(h d m).1.sh, (h d m).2.sh⟩, ?_, ?_⟩
  · simp only [PyData.depth]
    exact Nat.succ_le_succ (depthKv_mem fun d m => ⟨(h d m).1.dep, (h d m).2.dep⟩)
  · have p := piled_le (PyData.shownKv ds) (n := 2 * n + 2) fun t ht => by
      obtain ⟨d, hd, rfl⟩ := shownKv_mem ht
      have h1 := (h d hd).1.len
      have h2 := (h d hd).2.len
      rw [strLen_append, strLen_append]
      have e1 : (((": " : String) : Str)).length = 2 := rfl
      omega
    rw [shownKv_length, show 2 * n + 2 + 2 = 2 * n + 4 from rfl] at p
    show (dictText (PyData.shownKv ds)).length ≤ m
    unfold dictText
    rw [strLen_append, strLen_append]
    have e1 : ((("{" : String) : Str)).length = 1 := rfl
    have e2 : ((("}" : String) : Str)).length = 1 := rfl
    by_cases h : PyData.shownKv ds = []
    · rw [h]
      have : (Str.join ", " []).length = 0 := rfl
      omega
    · have := join_length_add (PyData.shownKv ds) h
      omega
/-- repr of data -/
theorem repr_of {K : PySem.W.Frag} {H : Hp} {v : V} {d : PyData} (r : Rd K H v d) (s : Sm 16777216 60 d) {Q : VK} (q : Q (.str d.shown) H) : rRepr K [v] H Q := rRepr_mk r s.sh s.dep s.len q
end HS

/-! G9: weaker statements, a pair of constants, joined signs. -/
namespace HS
open PySem PySem.Spec PyProof.Rows L2
section
variable {X : Cx} {st : Stmt} {t t' : TS}
theorem ps_imp (h : PS X st t) (m : ∀ D σ H, t' D σ H → t D σ H) : PS X st t' := ⟨fun pins s σ H D I q => h.run pins s σ H D I (m D σ H q)⟩
/-- a, b = (v, w), the pair laid by itself -/
def tParC (i j : Nat) (ta : TA) : TS := fun D σ H => ta σ H fun vs H1 => ∃ v w, vs = [v, w] ∧ ∀ q, H1 q = none → D.nx ((σ.set i (some v)).set j (some w)) (upd H1 q (.tup vs))
theorem ps_parC {es : List Expr} {ta : TA} {i j k : Nat} {x y : Str} {px py p q : Pos} {x1} (hc : X.calm = true) (hN : X.N.Nodup) (hi : X.N[i]? = some x) (hj : X.N[j]? = some y) (hx : X.env.scope.names.lookup x = some .local) (hy : X.env.scope.names.lookup y = some .local)
    (ha : PA X es ta) (hs : swapsWithSole [.Tuple [.Name x px, .Name y py] k p] (.Tuple es x1 q) pos.line X.env = pure false := by rfl) (hw : swappedStores [.Tuple [.Name x px, .Name y py] k p] (.Tuple es x1 q) X.env = pure none := by rfl)
    (h1 : (assignEach [.Tuple [.Name x px, .Name y py] k p] X.env).map (·.2) = [assign (.Tuple [.Name x px, .Name y py] k p) X.env] := by rfl) (hn : (assignEach [.Name x px, .Name y py] X.env).length = 2 := by rfl) (hst : (assignEach [.Name x px, .Name y py] X.env).findIdx? (·.1) = none := by rfl) :
    PS X (.Assign [.Tuple [.Name x px, .Name y py] k p] (.Tuple es x1 q) pos) (tParC i j ta) := by
  constructor
  intro pins s σ H D I h
  refine wpAny_Assign_stores (thn ((pe_tup (PAup ha)).run pins s σ H (fun v H' => gTup X.K 2 (gCons (gName i) (gCons (gName j) gNil)) v σ H' D.nx) I ?_) fun v s1 ⟨z, H1, I1, r1, q1⟩ => ?_) hs hw
  · refine ⟨_, h, fun vs H1 hq => ?_⟩
    obtain ⟨v, w, rfl, q⟩ := hq
    exact ⟨by show 2 ≤ sizeLine; decide, fun q' hq' => ⟨q', _, rfl, .inl (.inl upd_same), rfl, v, _, rfl, w, _, rfl, rfl, q q' hq'⟩⟩
  · rw [h1]
    exact thn ((pg_tup hc (pgs_cons (pg_name hN hi (.inl hx) (.inr hx)) (pgs_cons (pg_name hN hj (.inl hy) (.inr hy)) pgs_nil)) hn hst).run pins s1 σ H1 z v _ I1 r1 q1) fun _ s2 q => q
end
theorem kit_same (K : PySem.W.Frag) (C : Addr) : PySem.W.kitOne K (.ref C) (.ref C) = some true := by
  unfold PySem.W.kitOne
  rw [if_pos (by simp)]
/-- an error of the class at C is what «except S» names -/
theorem exm_of {K : PySem.W.Frag} {C S : Addr} (h1 : PySem.W.subIn K (.ref S) (.type "BaseException") = some true) (h2 : (PySem.W.clsIn K S).isSome = true) (h3 : PySem.W.typeIn K (.ref S) = some (.type "type")) (h4 : PySem.W.subIn K (.ref C) (.ref S) = some true) :
    PySem.W.exmOne K (.ref C) (.ref S) = some true := by
  have e1 : (PySem.W.subIn K (.ref S) (.type "BaseException") == some true) = true := by rw [h1] <;> rfl
  have e2 : ((PySem.W.clsIn K S).isSome && PySem.W.typeIn K (.ref S) == some (.type "type")) = true := by rw [h2, h3] <;> rfl
  show (if (PySem.W.subIn K (.ref S) (.type "BaseException") == some true) = true then (if ((PySem.W.clsIn K S).isSome && PySem.W.typeIn K (.ref S) == some (.type "type")) = true then PySem.W.subIn K (.ref C) (.ref S) else none) else none) = some true
  rw [if_pos e1, if_pos e2]
  exact h4
/-! ### comparing -/
@[irreducible] def rEqO : R2 := rEq
@[irreducible] def rNeO : R2 := rNe
section
variable {X : Cx} {x y : V} {z : Str} {H : Hp} {Q : VK}
theorem op_eqO : OpR X (compareOp .Eq) rEqO := by
  unfold rEqO
  exact op_eq
theorem op_neO : OpR X (compareOp .NotEq) rNeO := by
  unfold rNeO
  exact op_ne
theorem eq_mk (h : scal x y = true) (q : Q (.bl (decide (x = y))) H) : rEqO x y H Q := by
  unfold rEqO
  exact ⟨h, q⟩
theorem ne_mk (h : scal x y = true) (q : Q (.bl (!decide (x = y))) H) : rNeO x y H Q := by
  unfold rNeO
  exact ⟨h, q⟩
theorem eq_self (q : Q (.bl true) H) : rEqO (.str z) (.str z) H Q := eq_mk rfl (by rw [decide_eq_true rfl]; exact q)
theorem ne_self (q : Q (.bl false) H) : rNeO (.str z) (.str z) H Q := ne_mk rfl (by rw [decide_eq_true rfl]; exact q)
end
/-! ### signs -/
theorem cps_append (x y : Str) : (x ++ y).cps.toList = x.cps.toList ++ y.cps.toList := by
  show (x.cps ++ y.cps).toList = _
  simp
theorem join_cps : ∀ zs : List Str, (Str.join ⟨#[]⟩ zs).cps.toList = zs.flatMap (·.cps.toList)
  | [] => rfl
  | [x] => by simp [Str.join]
  | x :: y :: r => by
    have ih := join_cps (y :: r)
    show (x ++ ⟨#[]⟩ ++ Str.join ⟨#[]⟩ (y :: r)).cps.toList = _
    rw [cps_append, cps_append, ih]
    simp
theorem join_signs (cs : List Nat) : Str.join ⟨#[]⟩ (cs.map fun c => ⟨#[c]⟩) = ⟨cs.toArray⟩ := by
  have h : (Str.join ⟨#[]⟩ (cs.map fun c => (⟨#[c]⟩ : Str))).cps.toList = cs := by
    rw [join_cps]
    induction cs with
    | nil => rfl
    | cons c cs ih => simpa using ih
  have e : ∀ z : Str, z = ⟨z.cps.toList.toArray⟩ := fun z => by simp
  rw [e (Str.join _ _), h]
end HS

/-! G10: own classes over FnG: methods, makers, properties, static and class methods; defs with defaults. -/
namespace HS
open PySem PySem.Spec PyProof.Rows L2
theorem Rm.in1 {k : Nat} {A : Around} (r : Rm (k + 1) A) : Rm k A.in1 := ⟨r.room.in1, r.gd⟩
/-! ### defs with defaults -/
/-- a def by its body -/
theorem FunD.okG {P : Program} {w : World} {K : PySem.W.Frag} {mg : Str → Option Value} {base : Heap} {x qual : Str} {st : Stmt} {dvs : List V} {kws : List (Str × V)} {f : Addr} {fd : FuncData} {N ps : List Str} {k : Nat} {sp : Sp}
    (F : FunD K x qual (defArgs st) (defBody st) (defScope st) dvs kws f fd) (S : FnScope N ps (defScope st)) (len : ∀ vs H Q E, sp vs H Q E → vs.length = ps.length)
    (hbody : ∀ (cdv : Value) (A : Around) (outer : List Env) (s : Shared) (H : Hp) (vs : List V) (Q : VK) (E : XK), Rm k (A.deeper (envOfC qual (defScope st) s.heap.objs.size f cdv)) → sp vs H Q E →
      ∃ t, PSs (cxOf (L2.CX P w) P w K mg base N qual (defScope st) f cdv A outer s H E) (defBody st) t ∧ t { nx := fun _ H' => Q .non H', rt := Q } (start N vs) H) :
    FnG P w K mg base (k + 1) f fd ps sp := by
  obtain ⟨oc, od, dV, kV, doc, pm, an, cdv, ct, osl, rfl, lk, hcd, _, _⟩ := F.ex
  exact fnG lk hcd S len fun A outer s H vs Q E => hbody cdv A outer s H vs Q E
section
variable {K : PySem.W.Frag} {x qual : Str} {st : Stmt} {dvs : List V} {f : Addr} {fd : FuncData} {ps ks : List Str} {n : Nat}
/-- how a def with defaults binds -/
theorem bndD (F : FunD K x qual (defArgs st) (defBody st) (defScope st) dvs [] f fd) (hd : dvs ≠ []) (g : List Value → List Value → List Value → List Value) (gV : List V → List V → List V → List V)
    (h : ∀ (T : Addr) (kV doc pm : Value) (an : Option Addr) (cdv ct : Value) (us its ws : List Value), us.length = n → its.length = dvs.length → ws.length = ks.length →
      ∃ k, bindArgs (PySem.W.fnOf x qual (defArgs st) (defBody st) (defScope st) (.ref T) kV doc pm an cdv ct) ⟨us, ks.zip ws⟩ = seqItems? (.ref T) >>= k ∧ k (some its.toArray) = pure (ps.zip (g us its ws)))
    (hr : ∀ {vs ds zs : List V} {us its ws : List Value}, vs.length = n → ds.length = dvs.length → zs.length = ks.length → Vals vs us → Vals ds its → Vals zs ws → Vals (gV vs ds zs) (g us its ws)) :
    ∃ its : List Value, Bnd K fd ps n ks (fun us ws => g us its ws) (fun vs zs => gV vs dvs zs) := by
  obtain ⟨oc, od, dV, kV, doc, pm, an, cdv, ct, osl, rfl, lk, hcd, hD, _⟩ := F.ex
  rcases hD with ⟨e, _⟩ | ⟨_, T, o, its, m, rfl, lT, oT, rT⟩
  · exact absurd e hd
  · refine ⟨its, ⟨fun s us ws KI l1 l2 => BindsTo.of_looks fun M => ?_, fun l1 l2 r1 r2 => hr l1 rfl l2 r1 rT r2⟩⟩
    obtain ⟨k, e1, e2⟩ := h T kV doc pm an cdv ct us its ws l1 rT.length.symm l2
    rw [e1]
    exact looks_items KI lT oT (.of_pure e2)
end
/-! ### running -/
section
variable {X : Cx} {pins : List (Addr × Obj)} {σ : L2.St} {H : Hp} {s s' : Shared} {W : WX} {Q : VK} {k : Nat} {f C : Addr} {fd : FuncData} {ps ks : List Str} {sp : Sp} {n : Nat}
variable {g : List Value → List Value → List Value} {gV : List V → List V → List V} {e o : Expr} {es : List Expr} {kws : List Keyword} {ta : TE} {t tk : TA} {x m : Str} {p pos apos : Pos}
theorem runB {us ws : List Value} {vs zs : List V} (F : FnG X.prog X.w X.K X.mg X.base k f fd ps sp) (hr : Rm k X.A) (tk : Takes X W) (I : Inv X pins σ H s) (hb : Bnd X.K fd ps n ks g gV)
    (r : Vals vs us) (rz : Vals zs ws) (l1 : vs.length = n) (l2 : zs.length = ks.length) (h : sp (gV vs zs) H Q (atW W σ)) : wpAny (model X.prog X.w) X.A (call (.ref f) us (ks.zip ws)) (EP X pins σ Q) X.xe s :=
  runG F hr tk I (hb.to s us ws I.kIn (r.length.symm.trans l1) (rz.length.symm.trans l2)) (hb.rel l1 l2 r rz) h
/-- o.m(e, .., k = v, ..) -/
def tMW (C : Addr) (m : Str) (n mk : Nat) (sp : Sp) (gV : List V → List V → List V) (W : WX) (ta : TE) (t tk : TA) : TE := fun σ H Q => ta σ H fun x H1 => ∃ a dx fs, x = .ref a ∧ H1 a = some (.ins C dx fs) ∧ fs.lookup m = none ∧
  t σ H1 fun vs H2 => tk σ H2 fun zs H3 => vs.length = n ∧ zs.length = mk ∧ sp (gV (x :: vs) zs) H3 Q (atW W σ)
theorem pm_GW {pl : Sem Bool} (ho : PE X o ta) (c : Cls X.K C) (hm : Meth X.K C m f) (F : FnG X.prog X.w X.K X.mg X.base k f fd ps sp) (hr : Rm k X.A) (tak : Takes X W) (hb : Bnd X.K fd ps (n + 1) ks g gV) (ha : PA X (e :: es) t) (hkw : PK X kws tk)
    (hall : (backToKw pos (keywordEach kws X.env)).all (·.1.isSome) = true := by rfl) (hks : (backToKw pos (keywordEach kws X.env)).filterMap (·.1) = ks := by rfl)
    (he : starEach (e :: es) X.env = (false, eval e X.env) :: starEach es X.env := by rfl) (hpl : ((backTo pos (starEach (e :: es) X.env)).any (·.1) || (backToKw pos (keywordEach kws X.env)).any (·.1.isNone)) = false := by rfl)
    (hev : eval (.Call (.Attribute o m apos) (e :: es) kws pos) X.env = (do
      let ov ← eval o X.env
      standAt apos.atName
      let (f, first) ← holding [ov] (getMethod ov m pl)
      callWith pos f first (backTo pos (starEach (e :: es) X.env)) (backToKw pos (keywordEach kws X.env))) := by rfl) :
    PE X (.Call (.Attribute o m apos) (e :: es) kws pos) (tMW C m n ks.length sp gV W ta t tk) := by
  constructor
  intro pins s σ H Q I h
  refine PySem.W.methodCall_KW (pl := pl) (thn (ho.run pins s σ H _ I h) ?_) hev
  rintro u s1 ⟨_, H1, I1, rx, a, dx, fs, rfl, ea, l, q⟩
  obtain rfl : u = Value.ref a := rx
  refine getmeth_ok I1 ea c hm l (PySem.W.callWith_KW (first := [.ref a]) (h₀ := X.base) I.ok.mod.kin hm.kp hall (thn (ha.run pos pins s1 σ H1 _ I1 q) ?_) hpl he)
  rintro us s2 ⟨vs, H2, I2, r, q2⟩
  refine thn (hkw.run pos pins s2 σ H2 _ I2 q2) ?_
  rintro ws s3 ⟨zs, H3, I3, rz, l1, l2, q3⟩
  rw [hks]
  exact ⟨I3.kIn, runB (us := .ref a :: us) (vs := .ref a :: vs) F hr tak I3 hb (.cons rfl r) rz (congrArg Nat.succ l1) l2 q3⟩
theorem pm_GW0 {pl : Sem Bool} (ho : PE X o ta) (c : Cls X.K C) (hm : Meth X.K C m f) (F : FnG X.prog X.w X.K X.mg X.base k f fd ps sp) (hr : Rm k X.A) (tak : Takes X W) (hb : Bnd X.K fd ps (0 + 1) ks g gV) (hkw : PK X kws tk)
    (hall : (backToKw pos (keywordEach kws X.env)).all (·.1.isSome) = true := by rfl) (hks : (backToKw pos (keywordEach kws X.env)).filterMap (·.1) = ks := by rfl)
    (hpl : ((backTo pos (starEach [] X.env)).any (·.1) || (backToKw pos (keywordEach kws X.env)).any (·.1.isNone)) = false := by rfl)
    (hev : eval (.Call (.Attribute o m apos) [] kws pos) X.env = (do
      let ov ← eval o X.env
      standAt apos.atName
      let (f, first) ← holding [ov] (getMethod ov m pl)
      callWith pos f first (backTo pos (starEach [] X.env)) (backToKw pos (keywordEach kws X.env))) := by rfl) :
    PE X (.Call (.Attribute o m apos) [] kws pos) (tMW C m 0 ks.length sp gV W ta tNil tk) := by
  constructor
  intro pins s σ H Q I h
  refine PySem.W.methodCall_KW (pl := pl) (thn (ho.run pins s σ H _ I h) ?_) hev
  rintro u s1 ⟨_, H1, I1, rx, a, dx, fs, rfl, ea, l, q⟩
  obtain rfl : u = Value.ref a := rx
  refine getmeth_ok I1 ea c hm l (PySem.W.callWith_KW0 (first := [.ref a]) (h₀ := X.base) I.ok.mod.kin hm.kp hall (thn (hkw.run pos pins s1 σ H1 _ I1 q) ?_) hpl)
  rintro ws s3 ⟨zs, H3, I3, rz, l1, l2, q3⟩
  rw [hks]
  exact ⟨I3.kIn, runB (us := [.ref a]) (vs := [.ref a]) F hr tak I3 hb (.cons rfl .nil) rz rfl l2 q3⟩
/-- C(e, .., k = v, ..), an own class with an own __init__ -/
def tCW (C : Addr) (n mk : Nat) (sp : Sp) (gV : List V → List V → List V) (W : WX) (t tk : TA) : TE := fun σ H Q => t σ H fun vs H1 => tk σ H1 fun zs H2 => vs.length = n ∧ zs.length = mk ∧
  ∀ x dx, H2 x = none → H2 dx = none → dx ≠ x → sp (gV (.ref x :: vs) zs) (upd (upd H2 dx (.own x)) x (.ins C dx [])) (fun v H3 => v = .non ∧ Q (.ref x) H3) (atW W σ)
theorem runC {us ws : List Value} {vs zs : List V} (M : Mk X.K C f) (F : FnG X.prog X.w X.K X.mg X.base k f fd ps sp) (hr : Rm (k + 1) X.A) (tak : Takes X W) (I : Inv X pins σ H s) (hb : Bnd X.K fd ps (n + 1) ks g gV)
    (r : Vals vs us) (rz : Vals zs ws) (l1 : vs.length = n) (l2 : zs.length = ks.length)
    (h : ∀ x dx, H x = none → H dx = none → dx ≠ x → sp (gV (.ref x :: vs) zs) (upd (upd H dx (.own x)) x (.ins C dx [])) (fun v H3 => v = .non ∧ Q (.ref x) H3) (atW W σ)) :
    wpAny (model X.prog X.w) X.A (call (.ref C) us (ks.zip ws)) (EP X pins σ Q) X.xe s := by
  have hq := h (s.heap.objs.size + 1) s.heap.objs.size (I.hok.fresh (Nat.le_succ _)) (I.hok.fresh (Nat.le_refl _)) (Nat.ne_of_lt (Nat.lt_succ_self _))
  have I2 := Inv.made (C := C) I
  have r1 : Vals (V.ref (s.heap.objs.size + 1) :: vs) (Value.ref (s.heap.objs.size + 1) :: us) := .cons rfl r
  have e2 : ws.length = ks.length := rz.length.symm.trans l2
  refine wpAny_call (make_map (f := f) I.kIn M.makes M.init (beq_iff_eq.mp M.fn) (codeAny_mono (F.run _ X.stack _ _ ⟨_, ks.zip ws⟩ _ _ _ _ (hr.make C us (ks.zip ws)) (I2.env0.make C us (ks.zip ws))
    (hb.to _ _ ws I2.kIn (r1.length.symm.trans (congrArg Nat.succ l1)) e2) (hb.rel (vs := V.ref (s.heap.objs.size + 1) :: vs) (congrArg Nat.succ l1) l2 r1 rz) hq) ?_))
  intro res s' hq'
  have z := back_ok tak I2 hq'
  cases res with
  | error e => exact z
  | ok fl =>
    cases fl with
    | next => exact z
    | brk => exact z
    | cont => exact z
    | ret u =>
      obtain ⟨_, H', I3, rv, rfl, q3⟩ := z
      exact ⟨rv, V.ref (s.heap.objs.size + 1), H', I3, rfl, q3⟩
theorem pk_GW (M : Mk X.K C f) (F : FnG X.prog X.w X.K X.mg X.base k f fd ps sp) (hr : Rm (k + 1) X.A) (tak : Takes X W) (hm : X.mg x = some (.ref C)) (hb : Bnd X.K fd ps (n + 1) ks g gV) (ha : PA X (e :: es) t) (hkw : PK X kws tk) (hg : Gl X x := by rfl)
    (hall : (backToKw pos (keywordEach kws X.env)).all (·.1.isSome) = true := by rfl) (hks : (backToKw pos (keywordEach kws X.env)).filterMap (·.1) = ks := by rfl)
    (hdb : (x == ("__debug__" : Str)) = false := by decide) (he : starEach (e :: es) X.env = (false, eval e X.env) :: starEach es X.env := by rfl)
    (hpl : ((backTo pos (starEach (e :: es) X.env)).any (·.1) || (backToKw pos (keywordEach kws X.env)).any (·.1.isNone)) = false := by rfl) :
    PE X (.Call (.Name x p) (e :: es) kws pos) (tCW C n ks.length sp gV W t tk) := by
  constructor
  intro pins s σ H Q I h
  refine wpAny_Call_Name_kw (ld_glob I hg hm (PySem.W.callWith_KW (h₀ := X.base) I.ok.mod.kin M.kp hall (thn (ha.run pos pins s σ H _ I h) ?_) hpl he) hdb)
  rintro us s1 ⟨vs, H1, I1, r, q⟩
  refine thn (hkw.run pos pins s1 σ H1 _ I1 q) ?_
  rintro ws s2 ⟨zs, H2, I2, rz, l1, l2, q2⟩
  rw [hks]
  exact ⟨I2.kIn, runC M F hr tak I2 hb r rz l1 l2 q2⟩
theorem pk_GW0 (M : Mk X.K C f) (F : FnG X.prog X.w X.K X.mg X.base k f fd ps sp) (hr : Rm (k + 1) X.A) (tak : Takes X W) (hm : X.mg x = some (.ref C)) (hb : Bnd X.K fd ps (0 + 1) ks g gV) (hkw : PK X kws tk) (hg : Gl X x := by rfl)
    (hall : (backToKw pos (keywordEach kws X.env)).all (·.1.isSome) = true := by rfl) (hks : (backToKw pos (keywordEach kws X.env)).filterMap (·.1) = ks := by rfl)
    (hdb : (x == ("__debug__" : Str)) = false := by decide)
    (hpl : ((backTo pos (starEach [] X.env)).any (·.1) || (backToKw pos (keywordEach kws X.env)).any (·.1.isNone)) = false := by rfl) :
    PE X (.Call (.Name x p) [] kws pos) (tCW C 0 ks.length sp gV W tNil tk) := by
  constructor
  intro pins s σ H Q I h
  refine wpAny_Call_Name_kw (ld_glob I hg hm (PySem.W.callWith_KW0 (h₀ := X.base) I.ok.mod.kin M.kp hall (thn (hkw.run pos pins s σ H _ I h) ?_) hpl) hdb)
  rintro ws s2 ⟨zs, H2, I2, rz, l1, l2, q2⟩
  rw [hks]
  exact ⟨I2.kIn, runC (us := []) (vs := []) M F hr tak I2 hb .nil rz rfl l2 q2⟩
/-- e.f, a property -/
def tPG (C : Addr) (sp : Sp) (W : WX) (ta : TE) : TE := fun σ H Q => ta σ H fun x H1 => ∃ a dx fs, x = .ref a ∧ H1 a = some (.ins C dx fs) ∧ sp [.ref a] H1 Q (atW W σ)
end
/-! ### static methods -/
/-- C.m is a static method: its record at p, its def at g -/
structure SMet (K : PySem.W.Frag) (C : Addr) (mc : Value) (m : Str) (p g : Addr) : Prop where
  at_ : PySem.W.findCls K (.ref C) mc m = some (.get (.builtin "staticmethod.__get__") (.ref p) .none (.ref C))
  rc : ∃ rest, PySem.W.recIn K p "staticmethod" = some (.ref g :: rest)
  kp : PySem.W.keepIn K (.ref g) = true
section
variable {X : Cx} {W : WX} {k : Nat} {f C q : Addr} {fd : FuncData} {ps ks : List Str} {sp : Sp} {n : Nat} {mc : Value}
variable {g : List Value → List Value → List Value} {gV : List V → List V → List V} {e o : Expr} {es : List Expr} {kws : List Keyword} {ta : TE} {t tk : TA} {x m : Str} {p pos apos : Pos}
def tSW (C : Addr) (n mk : Nat) (sp : Sp) (gV : List V → List V → List V) (W : WX) (ta : TE) (t tk : TA) : TE := fun σ H Q => ta σ H fun x H1 => x = .ref C ∧
  t σ H1 fun vs H2 => tk σ H2 fun zs H3 => vs.length = n ∧ zs.length = mk ∧ sp (gV vs zs) H3 Q (atW W σ)
theorem getsm_ok {pins : List (Addr × Obj)} {σ : L2.St} {H : Hp} {s : Shared} {pl : Sem Bool} {A : Around} {E : Value → Shared → Prop} {Q : Value × List Value → Shared → Prop} (I : Inv X pins σ H s) (rd : ClX.CRead X.K C mc) (S : SMet X.K C mc m q f)
    (h : ∀ s', Inv X pins σ H s' → Q (.ref f, []) s') : wpAny (model X.prog X.w) A (getMethod (.ref C) m pl) Q E s := by
  obtain ⟨rest, hp⟩ := S.rc
  refine PySem.W.method_cls I.kIn rd.ga (PySem.W.cls_bind I.kIn rd.rd S.at_ (wpAny_call (PySem.W.sm_get (s := { s with toks := s.toks + 1 }) I.kIn hp (PySem.W.handed_on rfl ?_))))
  exact h _ (I.tok _)
/-- C.m(e, .., k = v, ..) -/
theorem pst_GW {pl : Sem Bool} (ho : PE X o ta) (rd : ClX.CRead X.K C mc) (S : SMet X.K C mc m q f) (F : FnG X.prog X.w X.K X.mg X.base k f fd ps sp) (hr : Rm k X.A) (tak : Takes X W) (hb : Bnd X.K fd ps n ks g gV) (ha : PA X (e :: es) t) (hkw : PK X kws tk)
    (hall : (backToKw pos (keywordEach kws X.env)).all (·.1.isSome) = true := by rfl) (hks : (backToKw pos (keywordEach kws X.env)).filterMap (·.1) = ks := by rfl)
    (he : starEach (e :: es) X.env = (false, eval e X.env) :: starEach es X.env := by rfl) (hpl : ((backTo pos (starEach (e :: es) X.env)).any (·.1) || (backToKw pos (keywordEach kws X.env)).any (·.1.isNone)) = false := by rfl)
    (hev : eval (.Call (.Attribute o m apos) (e :: es) kws pos) X.env = (do
      let ov ← eval o X.env
      standAt apos.atName
      let (f, first) ← holding [ov] (getMethod ov m pl)
      callWith pos f first (backTo pos (starEach (e :: es) X.env)) (backToKw pos (keywordEach kws X.env))) := by rfl) :
    PE X (.Call (.Attribute o m apos) (e :: es) kws pos) (tSW C n ks.length sp gV W ta t tk) := by
  constructor
  intro pins s σ H Q I h
  refine PySem.W.methodCall_KW (pl := pl) (thn (ho.run pins s σ H _ I h) ?_) hev
  rintro u s1 ⟨_, H1, I1, rx, rfl, q⟩
  obtain rfl : u = Value.ref C := rx
  refine getsm_ok I1 rd S fun s1' I1' => ?_
  refine PySem.W.callWith_KW (first := []) (h₀ := X.base) I.ok.mod.kin S.kp hall (thn (ha.run pos pins s1' σ H1 _ I1' q) ?_) hpl he
  rintro us s2 ⟨vs, H2, I2, r, q2⟩
  refine thn (hkw.run pos pins s2 σ H2 _ I2 q2) ?_
  rintro ws s3 ⟨zs, H3, I3, rz, l1, l2, q3⟩
  rw [hks]
  exact ⟨I3.kIn, runB F hr tak I3 hb r rz l1 l2 q3⟩
/-- o.f by a getter -/
theorem pc_P {f' : Str} (he : PE X e ta) (c : Cls X.K C) (hp : PropOf X.K C f' q f) (F : FnG X.prog X.w X.K X.mg X.base k f fd ["self"] sp) (hr : Rm (k + 1) X.A) (hb : Binds X.K fd ["self"] [])
    (hab : attributeBase e f' X.env (eval e X.env) = eval e X.env := by rfl) : PE X (.Attribute e f' pos) (tPG C sp noW ta) := by
  constructor
  intro pins s σ H Q I h
  refine attr_of hab (thn (he.run pins s σ H _ I h) ?_)
  rintro u s1 ⟨_, H1, I1, rx, a, dx, fs, rfl, ea, q⟩
  obtain rfl : u = Value.ref a := rx
  obtain ⟨mA, O, _, _, _, _⟩ := ins_get I1.hok ea
  obtain ⟨od, J, _⟩ := O.look
  obtain ⟨rest, hrec⟩ := hp.rec_
  have I2 := I1.tok (s1.toks + 1)
  have hc : (PySem.W.clsIn X.K C).isSome = true := by
    obtain ⟨cd, hc, _⟩ := PySem.W.any_some c.hd
    rw [hc]
    rfl
  refine PySem.W.get_bind I1.kIn J (PySem.W.plainGet_of (c.get f')).1 (PySem.W.findObj_data hc hp.at_ hp.get hp.tak) (PySem.W.plainGet_of (c.get f')).2 (wpAny_call (PySem.W.prop_get (s := { s1 with toks := s1.toks + 1 }) I1.kIn hrec ?_))
  refine codeAny_mono (F.run X.A.in1 X.stack _ H1 ⟨[.ref a], []⟩ [.ref a] [.ref a] Q _ hr.in1 I2.env0.in1 (by simpa using hb _ [.ref a] I2.kIn rfl) (.cons rfl .nil) q) ?_
  intro res s' hq
  have hfalse : ∀ (cls : Value) (d : Option Addr) (H' : Hp), atW noW σ cls d H' → False := fun _ _ _ z => z
  cases res with
  | error er =>
    obtain ⟨a', B, H', cls, d, _, _, _, _, _, _, _, z⟩ := hq
    exact z.elim
  | ok fl =>
    cases fl with
    | ret u =>
      obtain ⟨v, H', I3, rv, q3⟩ := I2.after hq
      show wpAny _ _ (handedOut u) _ _ _
      rw [PySem.W.handedOut_of (handed_of rv)]
      exact wpAny_pure ⟨v, H', I3, rv, q3⟩
    | next => exact hq.elim
    | brk => exact hq.elim
    | cont => exact hq.elim
end
end HS

/-! G11: operators of own classes. -/
namespace PySem.W
open PySem PySem.Calls PyProof.Rows
section
variable {prog : Program} {w : World} {A : Around} {E : Value → Shared → Prop} {s : Shared} {K : Frag} {x C f : Addr} {ox : Obj} {od : Option Obj} {nm T : String}
/-- what an own operator must have -/
structure OpC (K : Frag) (C f : Addr) (nm : String) : Prop where
  first : selfFirst K C = true
  at_ : findIn K (.ref C) (PySem.dunder nm) = some (some (.ref f))
  fn : isFn K (.ref f) = true
theorem hs_same {b : Value} {Q : Value → Shared → Prop} (X : K.In s.heap) (I : InstAt s.heap x ox C od) (hb : Looks (model prog w) s.heap (typeOf b) (.ref C)) (o : OpC K C f nm)
    (h : wpAny (model prog w) A (call (.ref f) [.ref x, b]) (CmpBack Q) E s) : wpAny (model prog w) A (binaryOp1 nm (.ref x) b) (fun r s' => ∃ v, r = some v ∧ Q v s') E s := by
  obtain ⟨cd, rest, hcd, hm⟩ := ksp_first o.first
  have one := ksp_try X I o.at_ o.fn h
  obtain ⟨hh, g, d, tt, os⟩ := s
  have L1 : Looks (model prog w) hh (typeOf (.ref x)) (.ref C) := I.type
  have L3 : Looks (model prog w) hh (fillsNumberSlot (.ref C) nm) true := fills_K X hcd hm o.at_
  unfold binaryOp1
  refine wpAny_bind (L1.at (wpAny_bind (hb.at (wpAny_bind (L3.at ?_)))))
  simp only [beq_self_eq_true, if_true]
  ksp_lk
  refine wpAny_mono one (fun r s' hr' => ?_) fun _ _ e => e
  obtain ⟨v, rfl, hq⟩ := hr'
  exact wpAny_pure ⟨v, rfl, hq⟩
theorem hs_left {b : Value} {fo ro rc : Option Value} {Q : Value → Shared → Prop} (X : K.In s.heap) (I : InstAt s.heap x ox C od) (hb : Looks (model prog w) s.heap (typeOf b) (.type T)) (o : OpC K C f nm)
    (hr : findIn K (.ref C) (dunderR nm) = some rc) (hp : rc = none ∨ ∃ g : Addr, rc = some (.ref g))
    (h1 : findIn K (.type T) (PySem.dunder nm) = some fo) (h2 : findIn K (.type T) (dunderR nm) = some ro) (hsub : subIn K (.type T) (.ref C) = some false)
    (h : wpAny (model prog w) A (call (.ref f) [.ref x, b]) (CmpBack Q) E s) : wpAny (model prog w) A (binaryOp1 nm (.ref x) b) (fun r s' => ∃ v, r = some v ∧ Q v s') E s := by
  obtain ⟨cd, rest, hcd, hm⟩ := ksp_first o.first
  have one := ksp_try X I o.at_ o.fn h
  obtain ⟨hh, g, d, tt, os⟩ := s
  have L1 : Looks (model prog w) hh (typeOf (.ref x)) (.ref C) := I.type
  have L3 : Looks (model prog w) hh (fillsNumberSlot (.ref C) nm) true := fills_K X hcd hm o.at_
  have L4 : Looks (model prog w) hh (fillsNumberSlot (.type T) nm) ((fo.isSome && !isSeqSlot fo) || (ro.isSome && !isSeqSlot ro)) := ksp_fillsT X h1 h2
  have L5 : Looks (model prog w) hh (isSubtype (.type T) (.ref C)) false := looks_subIn X hsub
  have L6 : Looks (model prog w) hh (numberSlotInPython (.ref C) nm) true := ksp_inPy X o.at_ hr hp
  have L7 : Looks (model prog w) hh (numberSlotInPython (.type T) nm) false := Looks.of_pure rfl
  have L8 : Looks (model prog w) hh (typeLookup (.type T) (dunderR nm)) ro := looks_findIn X h2
  generalize ((fo.isSome && !isSeqSlot fo) || (ro.isSome && !isSeqSlot ro)) = right at L4
  have hne : (Value.ref C == Value.type T) = false := Bool.eq_false_iff.mpr fun q => by cases beq_iff_eq.mp q
  unfold binaryOp1
  refine wpAny_bind (L1.at (wpAny_bind (hb.at (wpAny_bind (L3.at ?_)))))
  simp only [hne, Bool.false_eq_true, if_false]
  cases right with
  | false =>
    ksp_lk
    refine wpAny_mono one (fun r s' hr' => ?_) fun _ _ e => e
    obtain ⟨v, rfl, hq⟩ := hr'
    exact wpAny_pure ⟨v, rfl, hq⟩
  | true =>
    ksp_lk
    refine wpAny_mono one (fun r s' hr' => ?_) fun _ _ e => e
    obtain ⟨v, rfl, hq⟩ := hr'
    exact wpAny_pure ⟨v, rfl, hq⟩
/-- what an own reflected operator must have -/
structure OpR' (K : Frag) (C f : Addr) (nm : String) : Prop where
  first : selfFirst K C = true
  at_ : findIn K (.ref C) (dunderR nm) = some (some (.ref f))
  fn : isFn K (.ref f) = true
  no : ∃ g : Addr, findIn K (.ref C) (PySem.dunder nm) = some (some (.ref g))
theorem hs_right {a : Value} {fo ro : Option Value} {Q : Value → Shared → Prop} (X : K.In s.heap) (I : InstAt s.heap x ox C od) (ha : Looks (model prog w) s.heap (typeOf a) (.type T)) (o : OpR' K C f nm)
    (h1 : findIn K (.type T) (PySem.dunder nm) = some fo) (h2 : findIn K (.type T) (dunderR nm) = some ro) (hsub : subIn K (.ref C) (.type T) = some false)
    (hno : ∀ (E : Value → Shared → Prop) (Q : Option Value → Shared → Prop), Q none s → wpAny (model prog w) A (tryMethod a (PySem.dunder nm) (.ref x)) Q E s)
    (h : wpAny (model prog w) A (call (.ref f) [.ref x, a]) (CmpBack Q) E s) : wpAny (model prog w) A (binaryOp1 nm a (.ref x)) (fun r s' => ∃ v, r = some v ∧ Q v s') E s := by
  obtain ⟨cd, rest, hcd, hm⟩ := ksp_first o.first
  obtain ⟨g', hg'⟩ := o.no
  have one := ksp_try X I o.at_ o.fn h
  obtain ⟨hh, g, d, tt, os⟩ := s
  have L1 : Looks (model prog w) hh (typeOf (.ref x)) (.ref C) := I.type
  have L3 : Looks (model prog w) hh (fillsNumberSlot (.ref C) nm) true := fills_K X hcd hm hg'
  have L4 : Looks (model prog w) hh (fillsNumberSlot (.type T) nm) ((fo.isSome && !isSeqSlot fo) || (ro.isSome && !isSeqSlot ro)) := ksp_fillsT X h1 h2
  have L5 : Looks (model prog w) hh (isSubtype (.ref C) (.type T)) false := looks_subIn X hsub
  have L7 : Looks (model prog w) hh (numberSlotInPython (.type T) nm) false := Looks.of_pure rfl
  generalize ((fo.isSome && !isSeqSlot fo) || (ro.isSome && !isSeqSlot ro)) = left at L4
  have hne : (Value.type T == Value.ref C) = false := Bool.eq_false_iff.mpr fun q => by cases beq_iff_eq.mp q
  unfold binaryOp1
  refine wpAny_bind (ha.at (wpAny_bind (L1.at (wpAny_bind (L4.at ?_)))))
  simp only [hne, Bool.false_eq_true, if_false]
  cases left with
  | false =>
    ksp_lk
    refine wpAny_mono one (fun r s' hr' => ?_) fun _ _ e => e
    obtain ⟨v, rfl, hq⟩ := hr'
    ksp_lk
    exact ⟨v, rfl, hq⟩
  | true =>
    ksp_lk
    refine hno _ _ ?_
    ksp_lk
    refine wpAny_mono one (fun r s' hr' => ?_) fun _ _ e => e
    obtain ⟨v, rfl, hq⟩ := hr'
    ksp_lk
    exact ⟨v, rfl, hq⟩
theorem hs_bin {op : Operator} {a b : Value} {Q : Value → Shared → Prop} (h : wpAny (model prog w) A (binaryOp1 op.info.2 a b) (fun r s' => ∃ v, r = some v ∧ Q v s') E s) : wpAny (model prog w) A (binaryOp op a b) Q E s := by
  rcases hi : op.info with ⟨sym, nm'⟩
  rw [hi] at h
  simp only [binaryOp, hi]
  refine wpAny_holding (wpAny_bind (wpAny_mono h (fun r s' hr => ?_) fun _ _ e => e))
  obtain ⟨v, rfl, hq⟩ := hr
  ksp_lk
  exact hq
/-- no class of it has the in-place name -/
def noI (K : Frag) (C : Addr) (nm : String) : Bool := (clsIn K C).any fun cd => cd.mro.all fun c => findIn K c (dunderI nm) == some none
theorem hs_noI {h : Heap} {add : Bool} (X : K.In h) (hn : noI K C nm = true) : Looks (model prog w) h (fillsInplaceSlot (.ref C) nm add) false := by
  obtain ⟨cd, hcd, hm⟩ := any_some hn
  intro A Q E s k q
  have Lm := (looks_clsIn (M := model prog w) X hcd).andThen (f := fun cd => pure cd.mro) .now
  unfold fillsInplaceSlot
  refine wpAny_bind (Lm A _ E s k ?_)
  generalize cd.mro = l at hm
  clear Lm
  induction l with
  | nil => exact wpAny_pure q
  | cons c l ih =>
    rw [List.all_cons, Bool.and_eq_true] at hm
    rw [List.anyM_cons]
    refine wpAny_bind (wpAny_bind (looks_findIn X (beq_iff_eq.mp hm.1) A _ E s k (wpAny_pure ?_)))
    exact ih hm.2
theorem hs_aug {op : Operator} {b : Value} {Q : Value → Shared → Prop} (X : K.In s.heap) (I : InstAt s.heap x ox C od) (hn : noI K C op.info.2 = true)
    (h : wpAny (model prog w) A (binaryOp1 op.info.2 (.ref x) b) (fun r s' => ∃ v, r = some v ∧ Q v s') E s) : wpAny (model prog w) A (inplaceOp op (.ref x) b) Q E s := by
  have L1 : Looks (model prog w) s.heap (typeOf (.ref x)) (.ref C) := I.type
  have L2 : Looks (model prog w) s.heap (fillsInplaceSlot (.ref C) op.info.2 (op == .Add)) false := hs_noI X hn
  obtain ⟨hh, g, d, tt, os⟩ := s
  unfold inplaceOp
  refine wpAny_holding ?_
  refine wpAny_bind (L1.at (wpAny_bind (L2.at ?_)))
  simp only [Bool.false_eq_true, if_false]
  refine wpAny_bind (wpAny_mono h (fun r s' hr => ?_) fun _ _ e => e)
  obtain ⟨v, rfl, hq⟩ := hr
  ksp_lk
  exact hq
theorem decl_bin {M : Model} {Q : Fin → Shared → Prop} {nm : String} {f : Int → Int → Sem Fin} {i : Int} {t : Tok} {x C dx : Addr} (hx : s.heap.get? x = some (instObj C dx))
    (h : Q (.done (.ret .notImplemented)) s) : wpAny M A (Builtin.Int.intBinary nm f false ⟨[.int i t, .ref x], []⟩) Q E s := by
  obtain ⟨hh, g, d, tk, os⟩ := s
  unfold Builtin.Int.intBinary
  simp only [asInt?]
  dsimp only at hx
  repeat lk
  exact h
theorem dec_of {Q : Option Value → Shared → Prop} {i : Int} {t : Tok} {x C dx : Addr} {name : Str} {id nm : String} {B : Builtin} {f : Int → Int → Sem Fin} (slot : Slot "int" name id)
    (entry : entryFor table id = some B) (args : argsOk id ⟨[.int i t, .ref x], []⟩) (hB : B = Builtin.Int.intBinary nm f false) (hx : s.heap.get? x = some (instObj C dx))
    (h : Q none s) : wpAny (model prog w) A (tryMethod (.int i t) name (.ref x)) Q E s := by
  refine wpAny_tryMethod_declines (typeIs_int s i t) slot (wpAny_call (codeAny_call_builtin slot.plain entry (slot.check _ _ _ _ _ _ _ _ (typeIs_int s i t) args ?_)))
  rw [hB]
  exact decl_bin hx ⟨rfl, h⟩
theorem dec_add {Q : Option Value → Shared → Prop} {i : Int} {t : Tok} {x C dx : Addr} (hx : s.heap.get? x = some (instObj C dx)) (h : Q none s) : wpAny (model prog w) A (tryMethod (.int i t) (PySem.dunder "add") (.ref x)) Q E s := by
  obtain ⟨f, hf⟩ : ∃ f, Builtin.«int.__add__» = Builtin.Int.intBinary "__add__" f false := by
    unfold Builtin.«int.__add__»
    exact ⟨_, rfl⟩
  have k1 := @dec_of prog w A E s Q i t x C dx (PySem.dunder "add") "int.__add__" "__add__" Builtin.«int.__add__» f PySem.F.slot_int_add
  exact k1 PySem.F.entry_int_add (PySem.F.args_int_add_2 _ _) hf hx h
theorem dec_sub {Q : Option Value → Shared → Prop} {i : Int} {t : Tok} {x C dx : Addr} (hx : s.heap.get? x = some (instObj C dx)) (h : Q none s) : wpAny (model prog w) A (tryMethod (.int i t) (PySem.dunder "sub") (.ref x)) Q E s := by
  obtain ⟨f, hf⟩ : ∃ f, Builtin.«int.__sub__» = Builtin.Int.intBinary "__sub__" f false := by
    unfold Builtin.«int.__sub__»
    exact ⟨_, rfl⟩
  have k1 := @dec_of prog w A E s Q i t x C dx (PySem.dunder "sub") "int.__sub__" "__sub__" Builtin.«int.__sub__» f PySem.F.slot_int_sub
  exact k1 PySem.F.entry_int_sub (PySem.F.args_int_sub_2 _ _) hf hx h
theorem dec_mul {Q : Option Value → Shared → Prop} {i : Int} {t : Tok} {x C dx : Addr} (hx : s.heap.get? x = some (instObj C dx)) (h : Q none s) : wpAny (model prog w) A (tryMethod (.int i t) (PySem.dunder "mul") (.ref x)) Q E s := by
  obtain ⟨f, hf⟩ : ∃ f, Builtin.«int.__mul__» = Builtin.Int.intBinary "__mul__" f false := by
    unfold Builtin.«int.__mul__»
    exact ⟨_, rfl⟩
  have k1 := @dec_of prog w A E s Q i t x C dx (PySem.dunder "mul") "int.__mul__" "__mul__" Builtin.«int.__mul__» f PySem.F.slot_int_mul
  exact k1 PySem.F.entry_int_mul (PySem.F.args_int_mul_2 _ _) hf hx h
theorem dec_mod {Q : Option Value → Shared → Prop} {i : Int} {t : Tok} {x C dx : Addr} (hx : s.heap.get? x = some (instObj C dx)) (h : Q none s) : wpAny (model prog w) A (tryMethod (.int i t) (PySem.dunder "mod") (.ref x)) Q E s := by
  obtain ⟨f, hf⟩ : ∃ f, Builtin.«int.__mod__» = Builtin.Int.intBinary "__mod__" f false := by
    unfold Builtin.«int.__mod__»
    exact ⟨_, rfl⟩
  have k1 := @dec_of prog w A E s Q i t x C dx (PySem.dunder "mod") "int.__mod__" "__mod__" Builtin.«int.__mod__» f PySem.F.slot_int_mod
  exact k1 PySem.F.entry_int_mod (PySem.F.args_int_mod_2 _ _) hf hx h
theorem decl_fd {M : Model} {Q : Fin → Shared → Prop} {nm : String} {f : Int → Int → Sem Fin} {i : Int} {t : Tok} {x C dx : Addr} (hx : s.heap.get? x = some (instObj C dx))
    (h : Q (.done (.ret .notImplemented)) s) : wpAny M A (do Builtin.exactOperandsForPylong false ⟨[.int i t, .ref x], []⟩; Builtin.Int.intBinary nm f false ⟨[.int i t, .ref x], []⟩) Q E s := by
  refine wpAny_bind ?_
  obtain ⟨hh, g, d, tk, os⟩ := s
  unfold Builtin.exactOperandsForPylong
  dsimp only at hx
  rw [if_pos (show (([Value.int i t, Value.ref x] : List Value).any Value.onHeap) = true from rfl)]
  simp only [asInt?]
  repeat lk
  exact h
theorem dec_of2 {Q : Option Value → Shared → Prop} {i : Int} {t : Tok} {x C dx : Addr} {name : Str} {id nm : String} {B : Builtin} {f : Int → Int → Sem Fin} (slot : Slot "int" name id)
    (entry : entryFor table id = some B) (args : argsOk id ⟨[.int i t, .ref x], []⟩) (hB : B = fun args => (do Builtin.exactOperandsForPylong false args; Builtin.Int.intBinary nm f false args)) (hx : s.heap.get? x = some (instObj C dx))
    (h : Q none s) : wpAny (model prog w) A (tryMethod (.int i t) name (.ref x)) Q E s := by
  refine wpAny_tryMethod_declines (typeIs_int s i t) slot (wpAny_call (codeAny_call_builtin slot.plain entry (slot.check _ _ _ _ _ _ _ _ (typeIs_int s i t) args ?_)))
  rw [hB]
  exact decl_fd hx ⟨rfl, h⟩
theorem dec_floordiv {Q : Option Value → Shared → Prop} {i : Int} {t : Tok} {x C dx : Addr} (hx : s.heap.get? x = some (instObj C dx)) (h : Q none s) : wpAny (model prog w) A (tryMethod (.int i t) (PySem.dunder "floordiv") (.ref x)) Q E s := by
  obtain ⟨f, hf⟩ : ∃ f, Builtin.«int.__floordiv__» = fun args => (do Builtin.exactOperandsForPylong false args; Builtin.Int.intBinary "__floordiv__" f false args) := by
    unfold Builtin.«int.__floordiv__»
    exact ⟨_, rfl⟩
  have k1 := @dec_of2 prog w A E s Q i t x C dx (PySem.dunder "floordiv") "int.__floordiv__" "__floordiv__" Builtin.«int.__floordiv__» f PySem.F.slot_int_floordiv
  exact k1 PySem.F.entry_int_floordiv (PySem.F.args_int_floordiv_2 _ _) hf hx h
end
end PySem.W

/-! G12: operators of own classes over the abstract heap. -/
namespace HS
open PySem PySem.Spec PyProof.Rows L2
/-- an operation whose reading may look at the slots -/
def OpS (X : Cx) (m : Value → Value → Sem Value) (r : L2.St → R2) : Prop :=
  ∀ (pins : List (Addr × Obj)) (s : Shared) (σ : L2.St) (H : Hp) (x y : V) (v u : Value) (Q : VK), Inv X pins σ H s → RelV x v → RelV y u → r σ x y H Q → wpAny (model X.prog X.w) X.A (m v u) (EP X pins σ Q) X.xe s
def tOpS (r : L2.St → R2) (ta tb : TE) : TE := fun σ H Q => ta σ H fun x H1 => tb σ H1 fun y H2 => r σ x y H2 Q
/-- one or the other -/
def orS (r r' : L2.St → R2) : L2.St → R2 := fun σ x y H Q => r σ x y H Q ∨ r' σ x y H Q
section
variable {X : Cx} {m : Value → Value → Sem Value} {r r' : L2.St → R2} {r0 : R2} {a b : Expr} {ta tb : TE} {pos : Pos}
theorem OpS.of (h : OpR X m r0) : OpS X m (fun _ => r0) := fun pins s σ H x y v u Q I rx ry q => h pins s σ H x y v u Q I rx ry q
theorem OpS.or (h : OpS X m r) (h' : OpS X m r') : OpS X m (orS r r') := fun pins s σ H x y v u Q I rx ry q => q.elim (h pins s σ H x y v u Q I rx ry) (h' pins s σ H x y v u Q I rx ry)
theorem pe_opS {op : Operator} (ho : OpS X (binaryOp op) r) (ha : PE X a ta) (hb : PE X b tb) : PE X (.BinOp a op b pos) (tOpS r ta tb) := by
  constructor
  intro pins s σ H Q I h
  exact wpAny_BinOp (binT ha hb I h fun v u s2 x y H2 I2 rx ry q => ho pins s2 σ H2 x y v u Q I2 rx ry q)
theorem pe_cmpS {op : CmpOp} (ho : OpS X (compareOp op) r) (ha : PE X a ta) (hb : PE X b tb) (hm : behindInMarks op b = false) : PE X (.Compare a [op] [b] pos) (tOpS r ta tb) := by
  constructor
  intro pins s σ H Q I h
  exact wpAny_Compare1 (binT ha hb I h fun v u s2 x y H2 I2 rx ry q => ho pins s2 σ H2 x y v u Q I2 rx ry q) hm
theorem pt_cmpS {op : CmpOp} (ho : OpS X (compareOp op) r) (ha : PE X a ta) (hb : PE X b tb) (hm : behindInMarks op b = false) : PT X (.Compare a [op] [b] pos) (tTest (tOpS r ta tb)) := by
  constructor
  intro pins s σ H Q I h
  refine wpAny_isTrue_Compare1 (thn (ha.run pins s σ H _ I h) ?_) hm
  rintro v s1 ⟨x, H1, I1, r1, q1⟩
  refine thn (hb.run pins s1 σ H1 _ I1 q1) ?_
  rintro u s2 ⟨y, H2, I2, r2, q2⟩
  refine thn (ho pins s2 σ H2 x y v u _ I2 r1 r2 q2) ?_
  rintro c s3 ⟨_, H3, I3, r3, k, rfl, q3⟩
  cases r3
  exact wpAny_truthy_bool ⟨H3, I3, q3⟩
end
/-! ### own operators -/
theorem cmpB {X : Cx} {pins : List (Addr × Obj)} {σ : L2.St} {Q : VK} {u : Value} {s : Shared} (h : EP X pins σ Q u s) : PySem.W.CmpBack (EP X pins σ Q) u s := by
  obtain ⟨v, H, I, r, q⟩ := id h
  cases v with
  | non => cases (show u = Value.none from r); exact h
  | bl b => cases (show u = Value.bool b from r); exact h
  | int i => obtain ⟨t, z⟩ := (show ∃ t, u = Value.int i t from r); cases z; exact h
  | str i => obtain ⟨t, z⟩ := (show ∃ t, u = Value.str i t from r); cases z; exact h
  | byt i => obtain ⟨t, z⟩ := (show ∃ t, u = Value.bytes i t from r); cases z; exact h
  | flt i => obtain ⟨t, z⟩ := (show ∃ t, u = Value.float i t from r); cases z; exact h
  | ref a => cases (show u = Value.ref a from r); exact h
  | ty n => cases (show u = Value.type n from r); exact h
/-- an object of the class at C -/
def IsC (C : Addr) (H : Hp) (x : V) : Prop := ∃ a dx fs, x = .ref a ∧ H a = some (.ins C dx fs)
/-- x op y by the left one's method: y of the same class, or an int -/
def rOwn (C : Addr) (sp : Sp) (W : WX) : L2.St → R2 := fun σ x y H Q => IsC C H x ∧ (IsC C H y ∨ ∃ j, y = .int j) ∧ sp [x, y] H Q (atW W σ)
/-- int op y by y's reflected method -/
def rRef (C : Addr) (sp : Sp) (W : WX) : L2.St → R2 := fun σ x y H Q => IsC C H y ∧ (∃ j, x = .int j) ∧ sp [y, x] H Q (atW W σ)
/-- what of int's own operator must hold -/
structure IntOp (op : Operator) : Prop where
  l : ∀ K : PySem.W.Frag, ∃ fo, PySem.W.findIn K (.type "int") (PySem.dunder op.info.2) = some fo
  r : ∀ K : PySem.W.Frag, ∃ ro, PySem.W.findIn K (.type "int") (dunderR op.info.2) = some ro
  dec : ∀ {prog : Program} {w : World} {A : Around} {E : Value → Shared → Prop} {s : Shared} {Q : Option Value → Shared → Prop} {i : Int} {t : Tok} {x C dx : Addr}, s.heap.get? x = some (PySem.W.instObj C dx) → Q none s →
    wpAny (model prog w) A (tryMethod (.int i t) (PySem.dunder op.info.2) (.ref x)) Q E s
theorem int_add : IntOp .Add := ⟨fun K => ⟨some (.builtin "int.__add__"), by kernel_rfl⟩, fun K => ⟨some (.builtin "int.__radd__"), by kernel_rfl⟩, fun h q => PySem.W.dec_add h q⟩
theorem int_sub : IntOp .Sub := ⟨fun K => ⟨some (.builtin "int.__sub__"), by kernel_rfl⟩, fun K => ⟨some (.builtin "int.__rsub__"), by kernel_rfl⟩, fun h q => PySem.W.dec_sub h q⟩
theorem int_mul : IntOp .Mult := ⟨fun K => ⟨some (.builtin "int.__mul__"), by kernel_rfl⟩, fun K => ⟨some (.builtin "int.__rmul__"), by kernel_rfl⟩, fun h q => PySem.W.dec_mul h q⟩
theorem int_mod : IntOp .Mod := ⟨fun K => ⟨some (.builtin "int.__mod__"), by kernel_rfl⟩, fun K => ⟨some (.builtin "int.__rmod__"), by kernel_rfl⟩, fun h q => PySem.W.dec_mod h q⟩
theorem int_fdiv : IntOp .FloorDiv := ⟨fun K => ⟨some (.builtin "int.__floordiv__"), by kernel_rfl⟩, fun K => ⟨some (.builtin "int.__rfloordiv__"), by kernel_rfl⟩, fun h q => PySem.W.dec_floordiv h q⟩
theorem int_not (K : PySem.W.Frag) (C : Addr) : PySem.W.subIn K (.type "int") (.ref C) = some false := by kernel_rfl
section
variable {X : Cx} {W : WX} {k : Nat} {f C : Addr} {fd : FuncData} {sp : Sp} {op : Operator} {pins : List (Addr × Obj)} {σ : L2.St} {H : Hp} {s : Shared}
theorem inst_at {a dx : Addr} {fs : List (Str × V)} (I : Inv X pins σ H s) (e : H a = some (.ins C dx fs)) : s.heap.get? a = some (PySem.W.instObj C dx) ∧ ∃ od, PySem.W.InstAt s.heap a (PySem.W.instObj C dx) C (some od) := by
  obtain ⟨mA, O, _, _, _, _⟩ := ins_get I.hok e
  obtain ⟨od, J, _⟩ := O.look
  exact ⟨O.obj, od, J⟩
theorem bin1_left (io : IntOp op) (o : PySem.W.OpC X.K C f op.info.2) (hn : ∃ rc, PySem.W.findIn X.K (.ref C) (dunderR op.info.2) = some rc ∧ (rc = none ∨ ∃ g : Addr, rc = some (.ref g)))
    (F : FnG X.prog X.w X.K X.mg X.base k f fd ["self", "other"] sp) (hr : Rm k X.A) (tak : Takes X W) (hb : Binds X.K fd ["self", "other"] []) {x y : V} {v u : Value} {Q : VK} (I : Inv X pins σ H s) (rx : RelV x v) (ry : RelV y u) (q : rOwn C sp W σ x y H Q) :
    wpAny (model X.prog X.w) X.A (binaryOp1 op.info.2 v u) (fun r s' => ∃ z, r = some z ∧ EP X pins σ Q z s') X.xe s := by
  obtain ⟨⟨a, dx, fs, rfl, ea⟩, hy, q⟩ := q
  obtain rfl : v = Value.ref a := rx
  obtain ⟨ob, od, J⟩ := inst_at I ea
  have one : wpAny (model X.prog X.w) X.A (call (.ref f) [.ref a, u]) (PySem.W.CmpBack (EP X pins σ Q)) X.xe s :=
    wpAny_mono (runG F hr tak I (vs := [.ref a, y]) (gs := [.ref a, u]) (by simpa using hb s [.ref a, u] I.kIn rfl) (.cons rfl (.cons ry .nil)) q) (fun _ _ z => cmpB z) fun _ _ z => z
  rcases hy with ⟨b, dy, gs, rfl, eb⟩ | ⟨j, rfl⟩
  · obtain rfl : u = Value.ref b := ry
    obtain ⟨ob2, od2, J2⟩ := inst_at I eb
    exact PySem.W.hs_same I.kIn J J2.type o one
  · obtain ⟨t, rfl⟩ := ry
    obtain ⟨rc, hr1, hr2⟩ := hn
    obtain ⟨fo, h1⟩ := io.l X.K
    obtain ⟨ro, h2⟩ := io.r X.K
    exact PySem.W.hs_left (T := "int") I.kIn J (PySem.W.Looks.of_pure rfl) o hr1 hr2 h1 h2 (int_not _ _) one
theorem bin1_right (io : IntOp op) (o : PySem.W.OpR' X.K C f op.info.2) (hn : PySem.W.subIn X.K (.ref C) (.type "int") = some false)
    (F : FnG X.prog X.w X.K X.mg X.base k f fd ["self", "other"] sp) (hr : Rm k X.A) (tak : Takes X W) (hb : Binds X.K fd ["self", "other"] []) {x y : V} {v u : Value} {Q : VK} (I : Inv X pins σ H s) (rx : RelV x v) (ry : RelV y u) (q : rRef C sp W σ x y H Q) :
    wpAny (model X.prog X.w) X.A (binaryOp1 op.info.2 v u) (fun r s' => ∃ z, r = some z ∧ EP X pins σ Q z s') X.xe s := by
  obtain ⟨⟨a, dx, fs, rfl, ea⟩, ⟨j, rfl⟩, q⟩ := q
  obtain rfl : u = Value.ref a := ry
  obtain ⟨t, rfl⟩ := rx
  obtain ⟨ob, od, J⟩ := inst_at I ea
  have one : wpAny (model X.prog X.w) X.A (call (.ref f) [.ref a, .int j t]) (PySem.W.CmpBack (EP X pins σ Q)) X.xe s :=
    wpAny_mono (runG F hr tak I (vs := [.ref a, .int j]) (gs := [.ref a, .int j t]) (by simpa using hb s [.ref a, .int j t] I.kIn rfl) (.cons rfl (.cons ⟨t, rfl⟩ .nil)) q) (fun _ _ z => cmpB z) fun _ _ z => z
  obtain ⟨fo, h1⟩ := io.l X.K
  obtain ⟨ro, h2⟩ := io.r X.K
  exact PySem.W.hs_right (T := "int") I.kIn J (PySem.W.Looks.of_pure rfl) o h1 h2 hn (fun E Q h => io.dec ob h) one
theorem os_left (io : IntOp op) (o : PySem.W.OpC X.K C f op.info.2) (hn : ∃ rc, PySem.W.findIn X.K (.ref C) (dunderR op.info.2) = some rc ∧ (rc = none ∨ ∃ g : Addr, rc = some (.ref g)))
    (F : FnG X.prog X.w X.K X.mg X.base k f fd ["self", "other"] sp) (hr : Rm k X.A) (tak : Takes X W) (hb : Binds X.K fd ["self", "other"] []) : OpS X (binaryOp op) (rOwn C sp W) :=
  fun pins s σ H x y v u Q I rx ry q => PySem.W.hs_bin (bin1_left io o hn F hr tak hb I rx ry q)
theorem os_right (io : IntOp op) (o : PySem.W.OpR' X.K C f op.info.2) (hn : PySem.W.subIn X.K (.ref C) (.type "int") = some false)
    (F : FnG X.prog X.w X.K X.mg X.base k f fd ["self", "other"] sp) (hr : Rm k X.A) (tak : Takes X W) (hb : Binds X.K fd ["self", "other"] []) : OpS X (binaryOp op) (rRef C sp W) :=
  fun pins s σ H x y v u Q I rx ry q => PySem.W.hs_bin (bin1_right io o hn F hr tak hb I rx ry q)
/-- x op= y, the class has no in-place method -/
theorem ip_left (io : IntOp op) (o : PySem.W.OpC X.K C f op.info.2) (hn : ∃ rc, PySem.W.findIn X.K (.ref C) (dunderR op.info.2) = some rc ∧ (rc = none ∨ ∃ g : Addr, rc = some (.ref g))) (ni : PySem.W.noI X.K C op.info.2 = true)
    (F : FnG X.prog X.w X.K X.mg X.base k f fd ["self", "other"] sp) (hr : Rm k X.A) (hb : Binds X.K fd ["self", "other"] []) : PIp X op (fun x y H Q => rOwn C sp noW [] x y H Q) :=
  fun pins s σ H x y v u Q I rx ry q => by
    have q' : rOwn C sp noW σ x y H Q := q
    have z := bin1_left io o hn F hr takesF hb I rx ry q'
    obtain ⟨⟨a, dx, fs, rfl, ea⟩, _⟩ := q
    obtain rfl : v = Value.ref a := rx
    obtain ⟨ob, od, J⟩ := inst_at I ea
    exact PySem.W.hs_aug I.kIn J ni z
end
end HS

/-! G13: own classes: facts, isinstance, the sign, abs, truth, comparing. -/
namespace HS
open PySem PySem.Spec PyProof.Rows L2
def baseKinds : List String := ["int", "str", "bool", "list", "tuple", "dict"]
/-- no built-in kind stands above C -/
def noBase (K : PySem.W.Frag) (C : Addr) : Bool := baseKinds.all fun n => PySem.W.subIn K (.ref C) (.type n) == some false
/-- what an own class must have -/
structure OwnC (K : PySem.W.Frag) (C : Addr) : Prop where
  cls : Cls K C
  ha : PySem.W.findIn K (.ref C) "__class__" = some (some (.builtin "object.__class__"))
  hn : PySem.W.specialIn K (.builtin "object.__class__") "__get__" = some (some (.builtin "getset_descriptor.__get__"))
  htk : PySem.W.takesIn K (.builtin "object.__class__") = some true
  hm : PySem.W.mroIn K C (.type "object") = some true
  hcl : (PySem.W.clsIn K C).isSome = true
  ty : PySem.W.typeIn K (.ref C) = some (.type "type")
  first : PySem.W.selfFirst K C = true
  nb : noBase K C = true
section
variable {K : PySem.W.Frag} {H H' : Hp} {C C' : Addr} {x : V} {d : PyData} {Q : VK}
theorem OwnC.tyOf (o : OwnC K C) (h : IsC C H x) : Ty K H x (.ref C) := by
  obtain ⟨a, dx, fs, rfl, e⟩ := h
  exact .x (.base (.ins e o.cls o.ha o.hn o.htk o.hm))
theorem OwnC.no (o : OwnC K C) {n : String} (h : n ∈ baseKinds) : PySem.W.kitOne K (.ref C) (.type n) = some false := by
  have q := List.all_eq_true.mp o.nb n h
  unfold PySem.W.kitOne
  rw [if_neg (by simp)]
  show (if PySem.W.kitMeta n = true then PySem.W.subIn K (.ref C) (.type n) else none) = some false
  rw [beq_iff_eq.mp q]
  unfold baseKinds at h
  simp only [List.mem_cons, List.mem_nil_iff, or_false] at h
  rcases h with rfl | rfl | rfl | rfl | rfl | rfl <;> rfl
theorem OwnC.notInt (o : OwnC K C) : PySem.W.subIn K (.ref C) (.type "int") = some false := beq_iff_eq.mp (List.all_eq_true.mp o.nb "int" (by decide))
theorem OwnC.data (o : OwnC K C) (d : PyData) : PySem.W.kitOne K (.type (tyD d)) (.ref C) = some false := by
  unfold PySem.W.kitOne
  rw [if_neg (by simp)]
  show (if ((PySem.W.clsIn K C).isSome && PySem.W.typeIn K (.ref C) == some (.type "type")) = true then PySem.W.subIn K (.type (tyD d)) (.ref C) else none) = some false
  rw [o.hcl, o.ty, if_pos (by simp)]
  cases d <;> kernel_rfl
theorem is_own (o : OwnC K C) (h : IsC C H x) (q : Q (.bl true) H) : rIs K [x, .ref C] H Q := rIs_mk (.own C) (o.tyOf h) (kit_same K C) q
theorem is_own_base (o : OwnC K C) (h : IsC C H x) {n : String} (hn : n ∈ baseKinds) (q : Q (.bl false) H) : rIs K [x, .ty n] H Q := rIs_mk (.ty n) (o.tyOf h) (o.no hn) q
theorem is_data_own (o : OwnC K C) (h : Rd K H x d) (q : Q (.bl false) H) : rIs K [x, .ref C] H Q := rIs_mk (.own C) h.ty (o.data d) q
/-- a value of a kind that is known: data, or an object of an own class -/
inductive Any (K : PySem.W.Frag) (H : Hp) (x : V) : Prop
  | d (d : PyData) (h : Rd K H x d) : Any K H x
  | o (C : Addr) (o : OwnC K C) (h : IsC C H x) : Any K H x
theorem IsC.same (S : Same H H') (h : IsC C H x) : IsC C H' x := by
  obtain ⟨a, dx, fs, rfl, e⟩ := h
  exact ⟨a, dx, fs, rfl, S _ _ e⟩
theorem Any.same (S : Same H H') (h : Any K H x) : Any K H' x := by
  cases h with
  | d d h => exact .d d (h.same S)
  | o C o h => exact .o C o (h.same S)
end
/-! ### one-place operators -/
theorem Env0.at1 {P : Program} {w : World} {K : PySem.W.Frag} {mg : Str → Option Value} {base : Heap} {A : Around} {outer : List Env} {s : Shared} {H : Hp} (e : Env0 P w K mg base A outer s H) : Env0 P w K mg base A.in1 outer s H := e.in1
section
variable {X : Cx} {W : WX} {k : Nat} {f C : Addr} {fd : FuncData} {ps : List Str} {sp : Sp} {pins : List (Addr × Obj)} {σ : L2.St} {H : Hp} {s : Shared} {Q : VK}
/-- the callee runs one deeper -/
theorem runG1 {us gs : List Value} {kw : List (Str × Value)} {vs : List V} (F : FnG X.prog X.w X.K X.mg X.base k f fd ps sp) (hr : Rm (k + 1) X.A) (tk : Takes X W)
    (I : Inv X pins σ H s) (hb : BindsTo s fd ⟨us, kw⟩ (ps.zip gs)) (r : Vals vs gs) (h : sp vs H Q (atW W σ)) : wpAny (model X.prog X.w) X.A.in1 (call (.ref f) us kw) (EP X pins σ Q) X.xe s := by
  refine wpAny_call (codeAny_mono (F.run X.A.in1 X.stack s H ⟨us, kw⟩ gs vs Q _ hr.in1 I.env0.in1 hb r h) fun r s' hq => ?_)
  have z := back_ok tk I hq
  cases r with
  | error e => exact z
  | ok fl => cases fl <;> exact z
/-- an own one-place method's promise -/
def rUn (C : Addr) (sp : Sp) : V → Hp → VK → Prop := fun x H Q => IsC C H x ∧ sp [x] H Q fun _ _ _ => False
theorem un_negO (hs : PySem.W.findIn X.K (.ref C) "__neg__" = some (some (.ref f))) (hf : PySem.W.isFn X.K (.ref f) = true) (F : FnG X.prog X.w X.K X.mg X.base k f fd ["self"] sp) (hr : Rm k X.A) (hb : Binds X.K fd ["self"] []) :
    UnR X (unaryOp .USub) (rUn C sp) := by
  intro pins s σ H x v Q I rx q
  obtain ⟨⟨a, dx, fs, rfl, ea⟩, q⟩ := q
  obtain rfl : v = Value.ref a := rx
  obtain ⟨ob, od, J⟩ := inst_at I ea
  obtain ⟨m, Fr⟩ := I.fr
  exact PySem.W.ksp_neg Fr I.ok.mod.kin J hs hf (runG F hr takesF I (vs := [.ref a]) (gs := [.ref a]) (by simpa using hb s [.ref a] I.kIn rfl) (.cons rfl .nil) q)
theorem call_absO (hs : PySem.W.findIn X.K (.ref C) "__abs__" = some (some (.ref f))) (hf : PySem.W.isFn X.K (.ref f) = true) (F : FnG X.prog X.w X.K X.mg X.base k f fd ["self"] sp) (hr : Rm (k + 1) X.A) (hb : Binds X.K fd ["self"] []) :
    CallR X (.builtin "abs") (fun xs H Q => ∃ x, xs = [x] ∧ rUn C sp x H Q) := by
  intro pins s σ H xs us Q I r h
  obtain ⟨x, rfl, ⟨a, dx, fs, rfl, ea⟩, q⟩ := h
  obtain ⟨u, rfl, rx⟩ := vals1 r
  obtain rfl : u = Value.ref a := rx
  obtain ⟨ob, od, J⟩ := inst_at I ea
  refine PySem.Calls.call_function_entry kind_abs plain_abs entry_abs (args_abs _) ?_
  unfold Builtin.«abs»
  refine wpAny_bind (m := oneArg "abs" _) (wpAny_pure ?_)
  refine wpAny_bind (PySem.W.special_fn I.kIn J hs (beq_iff_eq.mp hf) (wpAny_mono (runG1 F hr takesF I (vs := [.ref a]) (gs := [.ref a]) (by simpa using hb s [.ref a] I.kIn rfl) (.cons rfl .nil) q) (fun v s' z => ?_) fun _ _ z => z))
  exact wpAny_pure ⟨v, rfl, z⟩
theorem CallR.or {g : Value} {r r' : List V → Hp → VK → Prop} (h : CallR X g r) (h' : CallR X g r') : CallR X g (fun xs H Q => r xs H Q ∨ r' xs H Q) :=
  fun pins s σ H xs us Q I rv q => q.elim (h pins s σ H xs us Q I rv) (h' pins s σ H xs us Q I rv)
end
/-! ### comparing -/
/-- x < y by the left one's method: y of the same class, or an int -/
theorem os_cmp {X : Cx} {W : WX} {k : Nat} {f C : Addr} {fd : FuncData} {sp : Sp} {op : CmpOp} (hop : ∀ a b, compareOp op a b = richCompare op a b) (o : OwnC X.K C) (hs : PySem.W.findIn X.K (.ref C) (cmpInfo op).2.1 = some (some (.ref f))) (hf : PySem.W.isFn X.K (.ref f) = true)
    (F : FnG X.prog X.w X.K X.mg X.base k f fd ["self", "other"] sp) (hr : Rm k X.A) (tak : Takes X W) (hb : Binds X.K fd ["self", "other"] []) : OpS X (compareOp op) (rOwn C sp W) := by
  intro pins s σ H x y v u Q I rx ry q
  obtain ⟨⟨a, dx, fs, rfl, ea⟩, hy, q⟩ := q
  obtain rfl : v = Value.ref a := rx
  obtain ⟨ob, od, J⟩ := inst_at I ea
  obtain ⟨m, Fr⟩ := I.fr
  have hu : X.A.units < cLine := by have := hr.room.un; have := hr.room.units; omega
  have one : wpAny (model X.prog X.w) X.A (call (.ref f) [.ref a, u]) (PySem.W.CmpBack (EP X pins σ Q)) X.xe s :=
    wpAny_mono (runG F hr tak I (vs := [.ref a, y]) (gs := [.ref a, u]) (by simpa using hb s [.ref a, u] I.kIn rfl) (.cons rfl (.cons ry .nil)) q) (fun _ _ z => cmpB z) fun _ _ z => z
  rw [hop]
  rcases hy with ⟨b, dy, gs, rfl, eb⟩ | ⟨j, rfl⟩
  · obtain rfl : u = Value.ref b := ry
    obtain ⟨ob2, od2, J2⟩ := inst_at I eb
    exact PySem.W.cmp_K hu Fr I.ok.mod.kin J J2.type (by unfold PySem.W.notFirst; simp) hs hf one
  · obtain ⟨t, rfl⟩ := ry
    exact PySem.W.cmp_K hu Fr I.ok.mod.kin J (tb := .type "int") (PySem.W.Looks.of_pure rfl) (by unfold PySem.W.notFirst; rw [int_not]; simp) hs hf one
/-! ### raising an error class without an __init__ of its own -/
theorem pmk_E0 {X : Cx} {C : Addr} {bmB : List Value} {B newId initId : String} {x : Str} {p pos : Pos} (F : ExcBaseFacts B newId initId bmB) (q : PySem.W.excIn X.K C bmB newId = true) (gC : X.mg x = some (.ref C)) (kC : PySem.W.keepIn X.K (.ref C) = true)
    (r : Raises X (.ref C)) (hg : Gl X x) (hdb : (x == ("__debug__" : Str)) = false := by decide) : PMk X (.Call (.Name x p) [] [] pos) (fun _ H Q => Q (.ref C) none H) := by
  intro pins s σ H Q I h
  refine wpAny_Call_Name_kw (ld_glob I hg gC (PySem.W.callWith_K0 I.kIn kC ?_) hdb)
  show wpAny _ _ (call (.ref C) []) _ _ _
  obtain ⟨bm, N, nm, qn, bs, hdct, sn, sub, ab, col, dd, k0, k1, k2, k3, k5, mN, hC, hN, hni, T⟩ := exc_obj I.kIn q
  refine wpAny_call_exc_subT F T hC hN hni (fun h' e hm => ?_) (by show 0 ≤ sizeLine; decide)
  exact mk_of I hm r h (I.hok.gone hm.new)
/-- what stands nowhere on the way -/
theorem pe_never {X : Cx} {e : Expr} : PE X e (fun _ _ _ => False) := ⟨fun _ _ _ _ _ _ h => h.elim⟩
/-- a def with defaults, from its record -/
theorem funD_mk {K : PySem.W.Frag} {x qual : Str} {st : Stmt} {f T : Addr} {oc kV doc pm cdv ct tc : Value} {od an td : Option Addr} {osl tsl : Array (Option Value)} {its : List Value} {n : Nat} {dvs : List V}
    (l : K.lookup f = some ⟨oc, od, .func (PySem.W.fnOf x qual (defArgs st) (defBody st) (defScope st) (.ref T) kV doc pm an cdv ct), osl⟩) (c : PySem.W.codeIn K cdv qual = true) (k : PySem.W.keepIn K (.ref f) = true)
    (t : K.lookup T = some ⟨tc, td, .seq its.toArray n, tsl⟩) (hd : dvs ≠ []) (r : Vals dvs its) :
    FunD K x qual (defArgs st) (defBody st) (defScope st) dvs [] f (PySem.W.fnOf x qual (defArgs st) (defBody st) (defScope st) (.ref T) kV doc pm an cdv ct) :=
  ⟨⟨oc, od, .ref T, kV, doc, pm, an, cdv, ct, osl, rfl, l, c, .inr ⟨hd, T, _, its, n, rfl, t, rfl, r⟩, .inl rfl⟩, k⟩
end HS

/-! G14: comparing own objects with ints on the left, !=, texts of own objects, truth. -/
namespace PySem.W
open PySem PySem.Calls PyProof.Rows
section
variable {prog : Program} {w : World} {A : Around} {E : Value → Shared → Prop} {s : Shared} {K : Frag} {x C f dx : Addr} {ox : Obj} {od : Option Obj}
theorem hs_one {b : Value} {name : Str} {Q : Value → Shared → Prop} (X : K.In s.heap) (I : InstAt s.heap x ox C od) (hs : findIn K (.ref C) name = some (some (.ref f))) (hf : isFn K (.ref f) = true)
    (h : wpAny (model prog w) A (call (.ref f) [.ref x, b]) (CmpBack Q) E s) : wpAny (model prog w) A (tryCompare (.ref x) name b) (fun r s' => ∃ v, r = some v ∧ Q v s') E s := by
  unfold tryCompare
  refine wpAny_bind (ifBound_K X I hs hf (wpAny_mono h (fun v s' hv => ?_) fun _ _ e => e))
  cases v <;> first | exact hv.elim | exact wpAny_pure ⟨_, rfl, hv⟩
/-- int op x by x's side -/
theorem hs_cmpR {op : CmpOp} {i : Int} {t : Tok} {Q : Value → Shared → Prop} (hu : A.units < cLine) (X : K.In s.heap) (I : InstAt s.heap x ox C od) (hn : subIn K (.ref C) (.type "int") = some false)
    (hone : oneThing? op (.int i t) (.ref x) = none)
    (hno : ∀ Q : Option Value → Shared → Prop, Q none s → wpAny (model prog w) A (tryCompare (.int i t) (cmpInfo op).2.1 (.ref x)) Q E s)
    (one : wpAny (model prog w) A (tryCompare (.ref x) (cmpInfo op).2.2 (.int i t)) (fun r s' => ∃ v, r = some v ∧ Q v s') E s) : wpAny (model prog w) A (richCompare op (.int i t) (.ref x)) Q E s := by
  rcases hi : cmpInfo op with ⟨sym, a, b⟩
  rw [hi] at one hno
  have La : Looks (model prog w) s.heap (typeOf (.int i t)) (.type "int") := Looks.of_pure rfl
  have hne : (Value.type "int" != Value.ref C) = true := by simp
  unfold richCompare
  rw [hone, hi]
  refine wpAny_holding (wpAny_bind (wpAny_cRoomFor hu ?_))
  dsimp only
  refine wpAny_bind (La.here (wpAny_bind (I.type.here ?_)))
  rw [if_pos hne]
  refine wpAny_bind ((looks_subIn X hn).here ?_)
  simp only [Bool.false_eq_true, if_false]
  refine wpAny_bind (hno _ ?_)
  simp only [Bool.not_false, if_true]
  refine wpAny_bind (wpAny_mono one (fun r s' z => ?_) fun _ _ e => e)
  obtain ⟨v, rfl, hq⟩ := z
  exact wpAny_pure hq
/-- x op b by x's side -/
theorem hs_cmpL {op : CmpOp} {b tb : Value} {Q : Value → Shared → Prop} (hu : A.units < cLine) (X : K.In s.heap) (I : InstAt s.heap x ox C od) (hb : Looks (model prog w) s.heap (typeOf b) tb) (hn : notFirst K C tb = true)
    (one : wpAny (model prog w) A (tryCompare (.ref x) (cmpInfo op).2.1 b) (fun r s' => ∃ v, r = some v ∧ Q v s') E s) : wpAny (model prog w) A (richCompare op (.ref x) b) Q E s := by
  rcases hi : cmpInfo op with ⟨sym, a, r⟩
  rw [hi] at one
  unfold richCompare
  rw [oneThing_ref, hi]
  refine wpAny_holding (wpAny_bind (wpAny_cRoomFor hu ?_))
  dsimp only
  refine wpAny_bind (I.type.here (wpAny_bind (hb.here ?_)))
  split
  · rename_i q
    have e : subIn K tb (.ref C) = some false := by
      rcases Bool.or_eq_true_iff.mp hn with e | e
      · rw [beq_iff_eq.mp e] at q
        simp at q
      · exact beq_iff_eq.mp e
    refine wpAny_bind ((looks_subIn X e).here ?_)
    simp only [Bool.false_eq_true, if_false]
    refine wpAny_bind (wpAny_mono one (fun r s' z => ?_) fun _ _ e => e)
    obtain ⟨v, rfl, hq⟩ := z
    exact wpAny_pure hq
  · refine wpAny_bind (wpAny_pure ?_)
    simp only [Bool.false_eq_true, if_false]
    refine wpAny_bind (wpAny_mono one (fun r s' z => ?_) fun _ _ e => e)
    obtain ⟨v, rfl, hq⟩ := z
    exact wpAny_pure hq
theorem decC_of {Q : Option Value → Shared → Prop} {i : Int} {t : Tok} {name : Str} {id nm : String} {B : Builtin} {g : Int → Int → Sem Fin} (slot : Slot "int" name id)
    (entry : entryFor table id = some B) (args : argsOk id ⟨[.int i t, .ref x], []⟩) (hB : B = Builtin.Int.intBinary nm g false) (hx : s.heap.get? x = some (instObj C dx))
    (h : Q none s) : wpAny (model prog w) A (tryCompare (.int i t) name (.ref x)) Q E s := by
  refine wpAny_tryCompare_declines (typeIs_int s i t) slot (wpAny_call (codeAny_call_builtin slot.plain entry (slot.check _ _ _ _ _ _ _ _ (typeIs_int s i t) args ?_)))
  rw [hB]
  exact decl_bin hx ⟨rfl, h⟩
theorem decC_lt {Q : Option Value → Shared → Prop} {i : Int} {t : Tok} (hx : s.heap.get? x = some (instObj C dx)) (h : Q none s) : wpAny (model prog w) A (tryCompare (.int i t) (cmpInfo .Lt).2.1 (.ref x)) Q E s := by
  obtain ⟨g, hg⟩ : ∃ g, Builtin.«int.__lt__» = Builtin.Int.intBinary "__lt__" g false := by
    unfold Builtin.«int.__lt__»
    exact ⟨_, rfl⟩
  have k1 := @decC_of prog w A E s x C dx Q i t (cmpInfo .Lt).2.1 "int.__lt__" "__lt__" Builtin.«int.__lt__» g PySem.F.slot_int_lt
  exact k1 PySem.F.entry_int_lt (PySem.F.args_int_lt_2 _ _) hg hx h
theorem decC_le {Q : Option Value → Shared → Prop} {i : Int} {t : Tok} (hx : s.heap.get? x = some (instObj C dx)) (h : Q none s) : wpAny (model prog w) A (tryCompare (.int i t) (cmpInfo .LtE).2.1 (.ref x)) Q E s := by
  obtain ⟨g, hg⟩ : ∃ g, Builtin.«int.__le__» = Builtin.Int.intBinary "__le__" g false := by
    unfold Builtin.«int.__le__»
    exact ⟨_, rfl⟩
  have k1 := @decC_of prog w A E s x C dx Q i t (cmpInfo .LtE).2.1 "int.__le__" "__le__" Builtin.«int.__le__» g PySem.F.slot_int_le
  exact k1 PySem.F.entry_int_le (PySem.F.args_int_le_2 _ _) hg hx h
theorem decC_gt {Q : Option Value → Shared → Prop} {i : Int} {t : Tok} (hx : s.heap.get? x = some (instObj C dx)) (h : Q none s) : wpAny (model prog w) A (tryCompare (.int i t) (cmpInfo .Gt).2.1 (.ref x)) Q E s := by
  obtain ⟨g, hg⟩ : ∃ g, Builtin.«int.__gt__» = Builtin.Int.intBinary "__gt__" g false := by
    unfold Builtin.«int.__gt__»
    exact ⟨_, rfl⟩
  have k1 := @decC_of prog w A E s x C dx Q i t (cmpInfo .Gt).2.1 "int.__gt__" "__gt__" Builtin.«int.__gt__» g PySem.F.slot_int_gt
  exact k1 PySem.F.entry_int_gt (PySem.F.args_int_gt_2 _ _) hg hx h
theorem decC_ge {Q : Option Value → Shared → Prop} {i : Int} {t : Tok} (hx : s.heap.get? x = some (instObj C dx)) (h : Q none s) : wpAny (model prog w) A (tryCompare (.int i t) (cmpInfo .GtE).2.1 (.ref x)) Q E s := by
  obtain ⟨g, hg⟩ : ∃ g, Builtin.«int.__ge__» = Builtin.Int.intBinary "__ge__" g false := by
    unfold Builtin.«int.__ge__»
    exact ⟨_, rfl⟩
  have k1 := @decC_of prog w A E s x C dx Q i t (cmpInfo .GtE).2.1 "int.__ge__" "__ge__" Builtin.«int.__ge__» g PySem.F.slot_int_ge
  exact k1 PySem.F.entry_int_ge (PySem.F.args_int_ge_2 _ _) hg hx h
theorem decC_eq {Q : Option Value → Shared → Prop} {i : Int} {t : Tok} (hx : s.heap.get? x = some (instObj C dx)) (h : Q none s) : wpAny (model prog w) A (tryCompare (.int i t) (cmpInfo .Eq).2.1 (.ref x)) Q E s := by
  obtain ⟨g, hg⟩ : ∃ g, Builtin.«int.__eq__» = Builtin.Int.intBinary "__eq__" g false := by
    unfold Builtin.«int.__eq__»
    exact ⟨_, rfl⟩
  have k1 := @decC_of prog w A E s x C dx Q i t (cmpInfo .Eq).2.1 "int.__eq__" "__eq__" Builtin.«int.__eq__» g PySem.F.slot_int_eq
  exact k1 PySem.F.entry_int_eq (PySem.F.args_int_eq_2 _ _) hg hx h
theorem decC_ne {Q : Option Value → Shared → Prop} {i : Int} {t : Tok} (hx : s.heap.get? x = some (instObj C dx)) (h : Q none s) : wpAny (model prog w) A (tryCompare (.int i t) (cmpInfo .NotEq).2.1 (.ref x)) Q E s := by
  obtain ⟨g, hg⟩ : ∃ g, Builtin.«int.__ne__» = Builtin.Int.intBinary "__ne__" g false := by
    unfold Builtin.«int.__ne__»
    exact ⟨_, rfl⟩
  have k1 := @decC_of prog w A E s x C dx Q i t (cmpInfo .NotEq).2.1 "int.__ne__" "__ne__" Builtin.«int.__ne__» g PySem.F.slot_int_ne
  exact k1 PySem.F.entry_int_ne (PySem.F.args_int_ne_2 _ _) hg hx h
/-- x != b by an own __eq__ alone, tried -/
theorem hs_tryNe {b : Value} {Q : Option Value → Shared → Prop} (hu : A.in1.units < cLine) (X : K.In s.heap) (I : InstAt s.heap x ox C od) (hm : mroIn K C (.type "object") = some true) (hne : findIn K (.ref C) "__ne__" = some (some (.builtin "object.__ne__")))
    (hs : findIn K (.ref C) "__eq__" = some (some (.ref f))) (hf : isFn K (.ref f) = true) (h : wpAny (model prog w) A.in1 (call (.ref f) [.ref x, b]) (fun v s' => ∃ c, v = .bool c ∧ Q (some (.bool (!c))) s') E s) :
    wpAny (model prog w) A (tryCompare (.ref x) "__ne__" b) Q E s := by
  unfold tryCompare
  refine wpAny_bind (NtL.csib (I.type.andThen (looks_findIn X hne)) (PySem.F.slot_object_ne.bind _) ?_)
  refine wpAny_call (codeAny_call_builtin PySem.F.slot_object_ne.plain PySem.F.entry_object_ne (check_slot (i := "object.__ne__") (owner := "object") (n := "__ne__") (by decide +kernel) (by decide +kernel) (I.type.andThen (looks_mroIn X hm)) (PySem.F.args_object_ne_2 _ _) ?_))
  unfold Builtin.«object.__ne__»
  refine wpAny_bind (m := slotArgs "__ne__" 1 _) (wpAny_pure ?_)
  dsimp only
  refine wpAny_bind (m := cRoomFor _ _) (wpAny_cRoomFor hu ?_)
  refine wpAny_bind (m := callSpecialIfBound? (.ref x) (Str.ofString "__eq__") _) (ifBound_K X I hs hf (wpAny_mono h (fun r s' hq => ?_) fun _ _ y => y))
  obtain ⟨c, rfl, hq⟩ := hq
  refine wpAny_bind (m := truthy (.bool c)) (wpAny_truthy_bool ?_)
  exact wpAny_pure (wpAny_pure hq)
end
end PySem.W
namespace HS
open PySem PySem.Spec PyProof.Rows L2
section
variable {X : Cx} {pins : List (Addr × Obj)} {σ : L2.St} {H : Hp} {s : Shared} {Q : VK} {W : WX} {k : Nat} {f C : Addr} {fd : FuncData} {sp : Sp} {op : CmpOp}
/-- the type of data -/
theorem rd_type {M : Model} {v : V} {u : Value} {d : PyData} (I : Inv X pins σ H s) (r : RelV v u) (h : Rd X.K H v d) : PySem.W.Looks M s.heap (typeOf u) (.type (tyD d)) := by
  cases h with
  | non => cases (show u = Value.none from r); exact .of_pure rfl
  | bl b => cases (show u = Value.bool b from r); exact .of_pure rfl
  | int i => obtain ⟨t, z⟩ := (show ∃ t, u = Value.int i t from r); cases z; exact .of_pure rfl
  | str x => obtain ⟨t, z⟩ := (show ∃ t, u = Value.str x t from r); cases z; exact .of_pure rfl
  | lst hs hn ha =>
    cases r
    obtain ⟨its, rv, ⟨o, n, ho, hc, _⟩, _⟩ := I.list hs
    exact fun A Q E s' kp q => wpAny_typeOf_ref (kp _ _ ho) (by rw [hc]; exact q)
  | tup hs ha =>
    cases r
    obtain ⟨its, rv, ⟨o, ho, hc, _⟩, _⟩ := I.tuple hs
    exact fun A Q E s' kp q => wpAny_typeOf_ref (kp _ _ ho) (by rw [hc]; exact q)
  | @dct a ks vs ds hs hl ha =>
    cases r
    obtain ⟨_, hn, ps, hp, o, es, ep, ho, hx, _⟩ : ObjOk X.prog X.w H s.heap a (.dK (ks.zip vs)) := I.hok a _ hs
    exact fun A Q E s' kp q => wpAny_typeOf_ref (kp _ _ ho) (by rw [hx.1]; exact q)
theorem not_first (K : PySem.W.Frag) (C : Addr) (d : PyData) : PySem.W.notFirst K C (.type (tyD d)) = true := by
  unfold PySem.W.notFirst
  have e : PySem.W.subIn K (.type (tyD d)) (.ref C) = some false := by cases d <;> kernel_rfl
  rw [e]
  simp
/-- an object of the class, or data -/
def IsCD (K : PySem.W.Frag) (C : Addr) (H : Hp) (y : V) : Prop := IsC C H y ∨ ∃ d, Rd K H y d
theorem cd_type {M : Model} {y : V} {u : Value} (I : Inv X pins σ H s) (r : RelV y u) (h : IsCD X.K C H y) : ∃ tb, PySem.W.Looks M s.heap (typeOf u) tb ∧ PySem.W.notFirst X.K C tb = true := by
  rcases h with ⟨b, dy, gs, rfl, eb⟩ | ⟨d, h⟩
  · obtain rfl : u = Value.ref b := r
    obtain ⟨ob2, od2, J2⟩ := inst_at I eb
    exact ⟨_, J2.type, by unfold PySem.W.notFirst; simp⟩
  · exact ⟨_, rd_type I r h, not_first _ _ _⟩
/-- x == y by x's method -/
def rEqO1 (K : PySem.W.Frag) (C : Addr) (sp : Sp) : L2.St → R2 := fun _ x y H Q => IsC C H x ∧ IsCD K C H y ∧ sp [x, y] H Q fun _ _ _ => False
/-- x != y by x's == -/
def rNeO1 (K : PySem.W.Frag) (C : Addr) (sp : Sp) : L2.St → R2 := fun _ x y H Q => IsC C H x ∧ IsCD K C H y ∧ sp [x, y] H (fun v H' => ∃ c, v = .bl c ∧ Q (.bl (!c)) H') fun _ _ _ => False
/-- int == y by y's method; int != y -/
def rEqO2 (C : Addr) (sp : Sp) : L2.St → R2 := fun _ x y H Q => IsC C H y ∧ (∃ j, x = .int j) ∧ sp [y, x] H Q fun _ _ _ => False
def rNeO2 (C : Addr) (sp : Sp) : L2.St → R2 := fun _ x y H Q => IsC C H y ∧ (∃ j, x = .int j) ∧ sp [y, x] H (fun v H' => ∃ c, v = .bl c ∧ Q (.bl (!c)) H') fun _ _ _ => False
theorem hu_rm {A : Around} (hr : Rm k A) : A.units < cLine := by have := hr.room.units; omega
theorem os_eq (hs : PySem.W.findIn X.K (.ref C) "__eq__" = some (some (.ref f))) (hf : PySem.W.isFn X.K (.ref f) = true) (F : FnG X.prog X.w X.K X.mg X.base k f fd ["self", "other"] sp) (hr : Rm k X.A) (hb : Binds X.K fd ["self", "other"] []) :
    OpS X (compareOp .Eq) (rEqO1 X.K C sp) := by
  intro pins s σ H x y v u Q I rx ry q
  obtain ⟨⟨a, dx, fs, rfl, ea⟩, hy, q⟩ := q
  obtain rfl : v = Value.ref a := rx
  obtain ⟨ob, od, J⟩ := inst_at I ea
  obtain ⟨tb, ht, hn⟩ := cd_type (M := model X.prog X.w) I ry hy
  exact PySem.W.hs_cmpL (op := .Eq) (hu_rm hr) I.kIn J ht hn (PySem.W.hs_one I.kIn J hs hf (wpAny_mono (runG F hr takesF I (vs := [.ref a, y]) (gs := [.ref a, u]) (by simpa using hb s [.ref a, u] I.kIn rfl) (.cons rfl (.cons ry .nil)) q) (fun _ _ z => cmpB z) fun _ _ z => z))
theorem os_eqR (o : OwnC X.K C) (hs : PySem.W.findIn X.K (.ref C) "__eq__" = some (some (.ref f))) (hf : PySem.W.isFn X.K (.ref f) = true) (F : FnG X.prog X.w X.K X.mg X.base k f fd ["self", "other"] sp) (hr : Rm k X.A) (hb : Binds X.K fd ["self", "other"] []) :
    OpS X (compareOp .Eq) (rEqO2 C sp) := by
  intro pins s σ H x y v u Q I rx ry q
  obtain ⟨⟨a, dx, fs, rfl, ea⟩, ⟨j, rfl⟩, q⟩ := q
  obtain rfl : u = Value.ref a := ry
  obtain ⟨t, rfl⟩ := rx
  obtain ⟨ob, od, J⟩ := inst_at I ea
  exact PySem.W.hs_cmpR (op := .Eq) (hu_rm hr) I.kIn J o.notInt rfl (fun Q q => PySem.W.decC_eq ob q) (PySem.W.hs_one I.kIn J hs hf (wpAny_mono (runG F hr takesF I (vs := [.ref a, .int j]) (gs := [.ref a, .int j t]) (by simpa using hb s [.ref a, .int j t] I.kIn rfl) (.cons rfl (.cons ⟨t, rfl⟩ .nil)) q) (fun _ _ z => cmpB z) fun _ _ z => z))
/-- what the own == hands to != -/
theorem ne_run {y : V} {u : Value} {a : Addr} (F : FnG X.prog X.w X.K X.mg X.base k f fd ["self", "other"] sp) (hr : Rm (k + 1) X.A) (hb : Binds X.K fd ["self", "other"] []) (I : Inv X pins σ H s) (ry : RelV y u)
    (q : sp [.ref a, y] H (fun v H' => ∃ c, v = .bl c ∧ Q (.bl (!c)) H') fun _ _ _ => False) :
    wpAny (model X.prog X.w) X.A.in1 (call (.ref f) [.ref a, u]) (fun v s' => ∃ c, v = .bool c ∧ (fun r s' => ∃ v, r = some v ∧ EP X pins σ Q v s') (some (.bool (!c))) s') X.xe s := by
  refine wpAny_mono (runG1 F hr takesF I (vs := [.ref a, y]) (gs := [.ref a, u]) (by simpa using hb s [.ref a, u] I.kIn rfl) (.cons rfl (.cons ry .nil)) q) ?_ fun _ _ z => z
  rintro v s' ⟨_, H', I', rv, c, rfl, q'⟩
  cases rv
  exact ⟨c, rfl, _, rfl, .bl (!c), H', I', rfl, q'⟩
theorem os_ne (o : OwnC X.K C) (hne : PySem.W.findIn X.K (.ref C) "__ne__" = some (some (.builtin "object.__ne__"))) (hs : PySem.W.findIn X.K (.ref C) "__eq__" = some (some (.ref f))) (hf : PySem.W.isFn X.K (.ref f) = true) (F : FnG X.prog X.w X.K X.mg X.base k f fd ["self", "other"] sp)
    (hr : Rm (k + 1) X.A) (hb : Binds X.K fd ["self", "other"] []) : OpS X (compareOp .NotEq) (rNeO1 X.K C sp) := by
  intro pins s σ H x y v u Q I rx ry q
  obtain ⟨⟨a, dx, fs, rfl, ea⟩, hy, q⟩ := q
  obtain rfl : v = Value.ref a := rx
  obtain ⟨ob, od, J⟩ := inst_at I ea
  obtain ⟨tb, ht, hn⟩ := cd_type (M := model X.prog X.w) I ry hy
  exact PySem.W.hs_cmpL (op := .NotEq) (hu_rm hr) I.kIn J ht hn (PySem.W.hs_tryNe (hu_rm hr.in1) I.kIn J o.hm hne hs hf (ne_run F hr hb I ry q))
theorem os_neR (o : OwnC X.K C) (hne : PySem.W.findIn X.K (.ref C) "__ne__" = some (some (.builtin "object.__ne__"))) (hs : PySem.W.findIn X.K (.ref C) "__eq__" = some (some (.ref f))) (hf : PySem.W.isFn X.K (.ref f) = true) (F : FnG X.prog X.w X.K X.mg X.base k f fd ["self", "other"] sp)
    (hr : Rm (k + 1) X.A) (hb : Binds X.K fd ["self", "other"] []) : OpS X (compareOp .NotEq) (rNeO2 C sp) := by
  intro pins s σ H x y v u Q I rx ry q
  obtain ⟨⟨a, dx, fs, rfl, ea⟩, ⟨j, rfl⟩, q⟩ := q
  obtain rfl : u = Value.ref a := ry
  obtain ⟨t, rfl⟩ := rx
  obtain ⟨ob, od, J⟩ := inst_at I ea
  exact PySem.W.hs_cmpR (op := .NotEq) (hu_rm hr) I.kIn J o.notInt rfl (fun Q q => PySem.W.decC_ne ob q) (PySem.W.hs_tryNe (hu_rm hr.in1) I.kIn J o.hm hne hs hf (ne_run F hr hb I (y := .int j) ⟨t, rfl⟩ q))
/-- int < y by y's reflected method -/
structure CmpD (op : CmpOp) : Prop where
  hop : ∀ a b, compareOp op a b = richCompare op a b
  one : ∀ i t x, oneThing? op (.int i t) (.ref x) = none
  dec : ∀ {prog : Program} {w : World} {A : Around} {E : Value → Shared → Prop} {s : Shared} {Q : Option Value → Shared → Prop} {i : Int} {t : Tok} {x C dx : Addr}, s.heap.get? x = some (PySem.W.instObj C dx) → Q none s →
    wpAny (model prog w) A (tryCompare (.int i t) (cmpInfo op).2.1 (.ref x)) Q E s
theorem cd_lt : CmpD .Lt := ⟨fun _ _ => rfl, fun _ _ _ => rfl, fun h q => PySem.W.decC_lt h q⟩
theorem cd_le : CmpD .LtE := ⟨fun _ _ => rfl, fun _ _ _ => rfl, fun h q => PySem.W.decC_le h q⟩
theorem cd_gt : CmpD .Gt := ⟨fun _ _ => rfl, fun _ _ _ => rfl, fun h q => PySem.W.decC_gt h q⟩
theorem cd_ge : CmpD .GtE := ⟨fun _ _ => rfl, fun _ _ _ => rfl, fun h q => PySem.W.decC_ge h q⟩
theorem os_cmpR (cd : CmpD op) (o : OwnC X.K C) (hs : PySem.W.findIn X.K (.ref C) (cmpInfo op).2.2 = some (some (.ref f))) (hf : PySem.W.isFn X.K (.ref f) = true) (F : FnG X.prog X.w X.K X.mg X.base k f fd ["self", "other"] sp) (hr : Rm k X.A) (tak : Takes X W)
    (hb : Binds X.K fd ["self", "other"] []) : OpS X (compareOp op) (rRef C sp W) := by
  intro pins s σ H x y v u Q I rx ry q
  obtain ⟨⟨a, dx, fs, rfl, ea⟩, ⟨j, rfl⟩, q⟩ := q
  obtain rfl : u = Value.ref a := ry
  obtain ⟨t, rfl⟩ := rx
  obtain ⟨ob, od, J⟩ := inst_at I ea
  rw [cd.hop]
  exact PySem.W.hs_cmpR (hu_rm hr) I.kIn J o.notInt (cd.one _ _ _) (fun Q q => cd.dec ob q) (PySem.W.hs_one I.kIn J hs hf (wpAny_mono (runG F hr tak I (vs := [.ref a, .int j]) (gs := [.ref a, .int j t]) (by simpa using hb s [.ref a, .int j t] I.kIn rfl) (.cons rfl (.cons ⟨t, rfl⟩ .nil)) q) (fun _ _ z => cmpB z) fun _ _ z => z))
end
end HS

/-! G15: truth and texts of own objects. -/
namespace PySem.W
open PySem PySem.Calls PyProof.Rows
section
variable {prog : Program} {w : World} {A : Around} {E : Value → Shared → Prop} {s : Shared} {K : Frag} {x C f : Addr} {ox : Obj} {od : Option Obj}
theorem hs_truthy {Q : Bool → Shared → Prop} (X : K.In s.heap) (I : InstAt s.heap x ox C od) (hs : findIn K (.ref C) "__bool__" = some (some (.ref f))) (hf : isFn K (.ref f) = true)
    (h : wpAny (model prog w) A (call (.ref f) [.ref x]) (BoolBack Q) E s) : wpAny (model prog w) A (truthy (.ref x)) Q E s := by
  unfold truthy
  refine wpAny_bind (m := callSpecial? (.ref x) (Str.ofString "__bool__")) (special_fn X I hs (beq_iff_eq.mp hf) (wpAny_mono h (fun r s' hr => ?_) fun _ _ y => y))
  cases r <;> first | exact hr.elim | exact wpAny_pure hr
open Builtin in
theorem hs_bool {Q : Value → Shared → Prop} (X : K.In s.heap) (I : InstAt s.heap x ox C od) (hs : findIn K (.ref C) "__bool__" = some (some (.ref f))) (hf : isFn K (.ref f) = true)
    (h : wpAny (model prog w) A.in1.in1 (call (.ref f) [.ref x]) (BoolBack fun b => Q (.bool b)) E s) : wpAny (model prog w) A (call (.type "bool") [.ref x]) Q E s := by
  refine callType_codes (T := "bool") (Bi := Builtin.«object.__init__») (Q₁ := fun r s₁ => ∃ c, r = .bool c ∧ Q r s₁) PySem.F.called_bool (PySem.F.typeCall_bool_1 _) PySem.F.entry_object_init ?_ ?_
  · refine codeAny_of_tree ?_
    show wpAny _ A.in1.in1 (do checkBuiltinCall "bool.__new__" ⟨[.type "bool", .ref x], []⟩; again (.builtin "bool.__new__" ⟨[.type "bool", .ref x], []⟩)) _ _ s
    refine wpAny_bind (wpAny_of_eq (PySem.F.newCall_bool_1 _) (wpAny_pure ⟨plainId_quiet (by decide +kernel) _, codeAny_builtin PySem.F.entry_bool_new ?_⟩))
    rw [Around.under_plainId (by decide +kernel) _]
    have hT := hs_truthy (Q := fun b s₁ => Q (.bool b) s₁) X I hs hf h
    obtain ⟨hp, g, d, tk, os⟩ := s
    have f1 := PySem.F.conv_sub_bool
    repeat (any_goals (first | assumption | (with_reducible refine wpAny_mono hT (fun b s' hb => ?_) fun _ _ y => y) | wp_step))
    all_goals first | exact ⟨_, rfl, hb⟩ | exact hb | skip
  · rintro obj s₁ ⟨c, rfl, hq⟩
    exact ⟨typeIs_bool _ _, PySem.F.args_object_init_2 _ _, object_init_meets PySem.F.called_bool.init.lookup PySem.F.called_bool.made (by decide) prog w A.in1 _ s₁ ⟨typeIs_bool _ _, rfl, hq⟩⟩
end
end PySem.W
namespace HS
open PySem PySem.Spec PyProof.Rows L2
section
variable {X : Cx} {k : Nat} {f C : Addr} {fd : FuncData} {sp : Sp}
/-- an own one-place method that tells a truth value -/
def rTr (C : Addr) (sp : Sp) : V → Hp → (Bool → Hp → Prop) → Prop := fun x H Q => IsC C H x ∧ sp [x] H (fun v H' => ∃ c, v = .bl c ∧ Q c H') fun _ _ _ => False
theorem boolB {pins : List (Addr × Obj)} {σ : L2.St} {Q : Bool → Hp → Prop} {u : Value} {s : Shared} (h : EP X pins σ (fun v H' => ∃ c, v = .bl c ∧ Q c H') u s) : PySem.W.BoolBack (TP X pins σ Q) u s := by
  obtain ⟨_, H', I, r, c, rfl, q⟩ := h
  cases r
  exact ⟨H', I, q⟩
theorem tru_own (hs : PySem.W.findIn X.K (.ref C) "__bool__" = some (some (.ref f))) (hf : PySem.W.isFn X.K (.ref f) = true) (F : FnG X.prog X.w X.K X.mg X.base k f fd ["self"] sp) (hr : Rm k X.A) (hb : Binds X.K fd ["self"] []) : TruR X (rTr C sp) := by
  intro pins s σ H x v Q I rx q
  obtain ⟨⟨a, dx, fs, rfl, ea⟩, q⟩ := q
  obtain rfl : v = Value.ref a := rx
  obtain ⟨ob, od, J⟩ := inst_at I ea
  exact PySem.W.hs_truthy I.kIn J hs hf (wpAny_mono (runG F hr takesF I (vs := [.ref a]) (gs := [.ref a]) (by simpa using hb s [.ref a] I.kIn rfl) (.cons rfl .nil) q) (fun _ _ z => boolB z) fun _ _ z => z)
/-- not x -/
theorem un_notO (ht : TruR X (rTr C sp)) : UnR X (unaryOp .Not) (fun x H Q => rTr C sp x H fun c H' => Q (.bl (!c)) H') := by
  intro pins s σ H x v Q I rx q
  exact not_of (thn (ht pins s σ H x v _ I rx q) fun c s2 ⟨H2, I2, q2⟩ => ⟨.bl (!c), H2, I2, rfl, q2⟩)
/-- the callee runs two deeper -/
theorem runG2 {pins : List (Addr × Obj)} {σ : L2.St} {H : Hp} {s : Shared} {W : WX} {Q : VK} {ps : List Str} {us gs : List Value} {kw : List (Str × Value)} {vs : List V} (F : FnG X.prog X.w X.K X.mg X.base k f fd ps sp) (hr : Rm (k + 2) X.A) (tk : Takes X W)
    (I : Inv X pins σ H s) (hb : BindsTo s fd ⟨us, kw⟩ (ps.zip gs)) (r : Vals vs gs) (h : sp vs H Q (atW W σ)) : wpAny (model X.prog X.w) X.A.in1.in1 (call (.ref f) us kw) (EP X pins σ Q) X.xe s := by
  refine wpAny_call (codeAny_mono (F.run X.A.in1.in1 X.stack s H ⟨us, kw⟩ gs vs Q _ hr.in1.in1 I.env0.in1.in1 hb r h) fun r s' hq => ?_)
  have z := back_ok tk I hq
  cases r with
  | error e => exact z
  | ok fl => cases fl <;> exact z
/-- bool(x) -/
theorem call_boolO (hs : PySem.W.findIn X.K (.ref C) "__bool__" = some (some (.ref f))) (hf : PySem.W.isFn X.K (.ref f) = true) (F : FnG X.prog X.w X.K X.mg X.base k f fd ["self"] sp) (hr : Rm (k + 2) X.A) (hb : Binds X.K fd ["self"] []) :
    CallR X (.type "bool") (fun xs H Q => ∃ x, xs = [x] ∧ rTr C sp x H fun c H' => Q (.bl c) H') := by
  intro pins s σ H xs us Q I r h
  obtain ⟨x, rfl, ⟨a, dx, fs, rfl, ea⟩, q⟩ := h
  obtain ⟨u, rfl, rx⟩ := vals1 r
  obtain rfl : u = Value.ref a := rx
  obtain ⟨ob, od, J⟩ := inst_at I ea
  refine PySem.W.hs_bool I.kIn J hs hf (wpAny_mono (runG2 F hr takesF I (vs := [.ref a]) (gs := [.ref a]) (by simpa using hb s [.ref a] I.kIn rfl) (.cons rfl .nil) q) (fun v s' z => ?_) fun _ _ z => z)
  obtain ⟨_, H', I', rv, c, rfl, q'⟩ := z
  cases rv
  exact ⟨.bl c, H', I', rfl, q'⟩
/-- str(x) -/
theorem call_strO (hs : PySem.W.findIn X.K (.ref C) "__str__" = some (some (.ref f))) (hf : PySem.W.isFn X.K (.ref f) = true) (F : FnG X.prog X.w X.K X.mg X.base k f fd ["self"] sp) (hr : Rm (k + 2) X.A) (hb : Binds X.K fd ["self"] []) :
    CallR X (.type "str") (fun xs H Q => ∃ x, xs = [x] ∧ IsC C H x ∧ sp [x] H (fun v H' => (∃ z, v = .str z) ∧ Q v H') fun _ _ _ => False) := by
  intro pins s σ H xs us Q I r h
  obtain ⟨x, rfl, ⟨a, dx, fs, rfl, ea⟩, q⟩ := h
  obtain ⟨u, rfl, rx⟩ := vals1 r
  obtain rfl : u = Value.ref a := rx
  obtain ⟨ob, od, J⟩ := inst_at I ea
  refine PySem.W.kso_call (hu_rm (k := k) hr.in1.in1) I.kIn J hs hf (wpAny_mono (runG2 F hr takesF I (vs := [.ref a]) (gs := [.ref a]) (by simpa using hb s [.ref a] I.kIn rfl) (.cons rfl .nil) q) (fun v s' z => ?_) fun _ _ z => z)
  obtain ⟨_, H', I', rv, ⟨y, rfl⟩, q'⟩ := z
  obtain ⟨t, rfl⟩ := rv
  exact ⟨.str y, H', I', ⟨t, rfl⟩, q'⟩
end
section
variable {X : Cx} {W : WX} {k : Nat} {f C q : Addr} {fd : FuncData} {ps ks : List Str} {sp : Sp} {mc : Value} {g : List Value → List Value → List Value} {gV : List V → List V → List V} {o : Expr} {kws : List Keyword} {ta : TE} {tk : TA} {m : Str} {apos pos : Pos}
/-- C.m(k = v, ..) -/
theorem pst_GW0 {pl : Sem Bool} (ho : PE X o ta) (rd : ClX.CRead X.K C mc) (S : SMet X.K C mc m q f) (F : FnG X.prog X.w X.K X.mg X.base k f fd ps sp) (hr : Rm k X.A) (tak : Takes X W) (hb : Bnd X.K fd ps 0 ks g gV) (hkw : PK X kws tk)
    (hall : (backToKw pos (keywordEach kws X.env)).all (·.1.isSome) = true := by rfl) (hks : (backToKw pos (keywordEach kws X.env)).filterMap (·.1) = ks := by rfl)
    (hpl : ((backTo pos (starEach [] X.env)).any (·.1) || (backToKw pos (keywordEach kws X.env)).any (·.1.isNone)) = false := by rfl)
    (hev : eval (.Call (.Attribute o m apos) [] kws pos) X.env = (do
      let ov ← eval o X.env
      standAt apos.atName
      let (f, first) ← holding [ov] (getMethod ov m pl)
      callWith pos f first (backTo pos (starEach [] X.env)) (backToKw pos (keywordEach kws X.env))) := by rfl) :
    PE X (.Call (.Attribute o m apos) [] kws pos) (tSW C 0 ks.length sp gV W ta tNil tk) := by
  constructor
  intro pins s σ H Q I h
  refine PySem.W.methodCall_KW (pl := pl) (thn (ho.run pins s σ H _ I h) ?_) hev
  rintro u s1 ⟨_, H1, I1, rx, rfl, q⟩
  obtain rfl : u = Value.ref C := rx
  refine getsm_ok I1 rd S fun s1' I1' => ?_
  refine PySem.W.callWith_KW0 (first := []) (h₀ := X.base) I.ok.mod.kin S.kp hall (thn (hkw.run pos pins s1' σ H1 _ I1' q) ?_) hpl
  rintro ws s3 ⟨zs, H3, I3, rz, l1, l2, q3⟩
  rw [hks]
  exact ⟨I3.kIn, runB (us := []) (vs := []) F hr tak I3 hb .nil rz rfl l2 q3⟩
end
/-- one way of running or another -/
theorem pi_or {X : Cx} {tg e : Expr} {w1 w2 : TI} (a : PI X tg e w1) (b : PI X tg e w2) : PI X tg e (fun σ H R => w1 σ H R ∨ w2 σ H R) := ⟨fun pins s σ H R I h => h.elim (a.run pins s σ H R I) (b.run pins s σ H R I)⟩
theorem ps_lcO {X : Cx} {st : Stmt} {wi : TI} {g gg : TG} {tt : TT} {te : TE} {vs : List Nat} (h : PS X st (tAsg (tLc wi g tt te vs) gg)) : PS X st (tAsg (tLcO wi g tt te vs) gg) := by
  unfold tLcO
  exact h
end HS

namespace HS
open PySem PySem.Spec PyProof.Rows L2
/-! ### the text by places -/
def top (i : Nat) : Stmt := PySem.Challenge.pw_holeshift_k20_amounts_compared.main.body.getD i (.Pass ⟨0, 0, 0, 0⟩)

local macro_rules | `(tactic| walk_at "mem") => `(tactic| first
  | with_reducible assumption
  | exact upd_same
  | (refine upd_old (by with_reducible assumption) ?_; walk_at "mem")
  | (rw [upd_ne (by first | with_reducible assumption | exact Ne.symm (by with_reducible assumption))]; walk_at "mem")
  | (refine Same.use (by with_reducible assumption) ?_; walk_at "mem")
  | (refine But.use (by with_reducible assumption) (by with_reducible assumption) ?_; walk_at "mem"))
local macro_rules | `(tactic| walk_at "sz") => `(tactic| first
  | with_reducible assumption
  | (with_reducible apply Sz.add; (walk_at "sz"); (walk_at "sz"))
  | (with_reducible apply Sz.sub; (walk_at "sz"); (walk_at "sz"))
  | (with_reducible apply Sz.mul; (walk_at "sz"); (walk_at "sz"))
  | exact Sz.fmodL (by decide) (Sz.of_lt (n := 64) (by simp only [Nat.reducePow]; omega) (by simp only [Nat.reducePow]; omega))
  | exact Sz.of_lt (n := 64) (by simp only [Nat.reducePow]; omega) (by simp only [Nat.reducePow]; omega))
local macro_rules | `(tactic| walk_at "nz") => `(tactic| (show (_ : Int) ≠ 0; first | decide | omega))
theorem draw_of {H : Hp} {p c : Addr} {n : Nat} {m : Int} {Q : Int → Hp → Prop} (hP : Pen n c H p) (hn : n ≤ 1000000000) (h0 : 0 < m) (hm : Sz 4000 m) (k : ∀ (r : Int) (H' : Hp), 0 ≤ r → r < m → Pen (n + 1) c H' p → But p H H' → Q r H') :
    ∃ (p' c' : Addr) (m' : Int) (n' : Nat), [V.ref p, V.int m] = [.ref p', .int m'] ∧ Pen n' c' H p' ∧ n' ≤ 1000000000 ∧ 0 < m' ∧ Sz 4000 m' ∧ ∀ (r : Int) (H' : Hp), 0 ≤ r → r < m' → Pen (n' + 1) c' H' p' → But p' H H' → Q r H' :=
  ⟨p, c, m, n, rfl, hP, hn, h0, hm, k⟩
theorem pick_ints {K : PySem.W.Frag} {H : Hp} {p c q : Addr} {n : Nat} {Q : VK} (ns : List Int) (hP : Pen n c H p) (hn : n ≤ 1000000000) (hq : H q = none) (h0 : 0 < ns.length) (h1 : ns.length ≤ 1000000) (k : ∀ m ∈ ns, ∀ H', Pen (n + 1) c H' p → But p H H' → Q (.int m) H') :
    ∃ (p' c' : Addr) (x : V) (xs : List V) (n' : Nat), [V.ref p, V.ref q] = [.ref p', x] ∧ Pen n' c' (upd H q (.lst (ns.map V.int))) p' ∧ n' ≤ 1000000000 ∧ Pk K (Hd p' (upd H q (.lst (ns.map V.int)))) x xs ∧ 0 < xs.length ∧ xs.length ≤ 1000000 ∧
      ∀ v ∈ xs, ∀ H', Pen (n' + 1) c' H' p' → But p' (upd H q (.lst (ns.map V.int))) H' → Q v H' :=
  ⟨p, c, .ref q, ns.map V.int, n, rfl, hP.same (same_new hq), hn, .inl ⟨q, rfl, .inl (SqL.of (Hd.of (hP.ne hq) upd_same))⟩, by simpa using h0, by simpa using h1, fun v hv H' hP' B => by
    obtain ⟨m, hm, rfl⟩ := List.mem_map.mp hv
    exact k m hm H' hP' ((But.of (same_new hq)).trans B)⟩

def wholeV : V → Bool
  | .int _ => true
  | _ => false
/-- the fields of an Amount -/
def amF (t b : Int) : List (Str × V) := [("top", .int t), ("bottom", .int b)]
def Am (C : Addr) (H : Hp) (x : V) (t b : Int) : Prop := ∃ a dx, x = .ref a ∧ H a = some (.ins C dx (amF t b))
theorem Am.same {C : Addr} {H H' : Hp} {x : V} {t b : Int} (S : Same H H') (h : Am C H x t b) : Am C H' x t b := by
  obtain ⟨a, dx, rfl, e⟩ := h
  exact ⟨a, dx, rfl, S _ _ e⟩
theorem Am.isC {C : Addr} {H : Hp} {x : V} {t b : Int} (h : Am C H x t b) : IsC C H x := by
  obtain ⟨a, dx, rfl, e⟩ := h
  exact ⟨a, dx, _, rfl, e⟩
/-- a number: an int, or an Amount -/
def Num (C : Addr) (H : Hp) (x : V) (t b : Int) : Prop := (x = .int t ∧ b = 1) ∨ Am C H x t b
theorem Num.same {C : Addr} {H H' : Hp} {x : V} {t b : Int} (S : Same H H') (h : Num C H x t b) : Num C H' x t b := h.elim .inl fun h => .inr (h.same S)
theorem Num.or {C : Addr} {H : Hp} {x : V} {t b : Int} (h : Num C H x t b) : IsC C H x ∨ ∃ j, x = .int j := h.elim (fun h => .inr ⟨t, h.1⟩) fun h => .inl h.isC
/-- lowest terms, the bottom above 0 -/
def nrm (t b : Int) : Int × Int :=
  if b < 0 then (t.fdiv (-(Int.gcd t b : Int)), b.fdiv (-(Int.gcd t b : Int))) else (t.fdiv (Int.gcd t b : Int), b.fdiv (Int.gcd t b : Int))
theorem gcd_pos {t b : Int} (h : b ≠ 0) : 0 < (Int.gcd t b : Int) := by
  have : 0 < Int.gcd t b := Int.gcd_pos_of_ne_zero_right t h
  omega
theorem gcd_le {t b : Int} (h : b ≠ 0) : (Int.gcd t b : Int).natAbs ≤ b.natAbs := by
  have : Int.gcd t b ≤ b.natAbs := Nat.le_of_dvd (by omega) (Nat.gcd_dvd_right t.natAbs b.natAbs)
  omega
theorem nrm_sz {m n : Nat} {t b : Int} (ht : Sz m t) (hb : Sz n b) : Sz m (nrm t b).1 ∧ Sz n (nrm t b).2 := by
  unfold nrm
  split
  · exact ⟨ht.fdiv _, hb.fdiv _⟩
  · exact ⟨ht.fdiv _, hb.fdiv _⟩
theorem gcd_dvd_b (t b : Int) : (Int.gcd t b : Int) ∣ b := Int.gcd_dvd_right t b
theorem fdiv_key {G c : Int} (h : 0 < G) : (G * c).fdiv G = c ∧ (G * c).fdiv (-G) = -c := by
  refine ⟨Int.mul_fdiv_cancel_left _ (by omega), ?_⟩
  rw [show G * c = -G * (-c) from (Int.neg_mul_neg G c).symm]
  exact Int.mul_fdiv_cancel_left _ (by omega)
theorem nrm_pos {t b : Int} (h : b ≠ 0) : 0 < (nrm t b).2 := by
  obtain ⟨c, hc⟩ := gcd_dvd_b t b
  have g := gcd_pos (t := t) h
  have e : (nrm t b).2 = if b < 0 then b.fdiv (-(Int.gcd t b : Int)) else b.fdiv (Int.gcd t b : Int) := by
    unfold nrm
    split <;> rfl
  rw [e]
  generalize (Int.gcd t b : Int) = G at hc g
  subst hc
  obtain ⟨k1, k2⟩ := fdiv_key (c := c) g
  rw [k1, k2]
  split
  · rename_i hb
    have : ¬ 0 ≤ c := fun q => by have := Int.mul_nonneg (Int.le_of_lt g) q; omega
    omega
  · rename_i hb
    have : ¬ c ≤ 0 := fun q => by
      have := Int.mul_nonpos_of_nonneg_of_nonpos (Int.le_of_lt g) q
      omega
    omega
def spGcd : Sp := fun vs H Q _ => ∃ a b : Int, vs = [.int a, .int b] ∧ 0 ≤ a ∧ 0 ≤ b ∧ Q (.int (Int.gcd a b)) H
def spWhole (K : PySem.W.Frag) : Sp := fun vs H Q _ => ∃ v, vs = [v] ∧ Any K H v ∧ Q (.bl (wholeV v)) H
def spHalves (K : PySem.W.Frag) (C : Addr) : Sp := fun vs H Q _ => ∃ (x : V) (t b : Int), vs = [x] ∧ Num C H x t b ∧ ∀ p H', Same H H' → SqT K H' p [.int t, .int b] → Q (.ref p) H'
/-- Amount.__init__ -/
@[irreducible] def spAmI (K : PySem.W.Frag) (C CA CN : Addr) : Sp := fun vs H Q E => ∃ (a dx : Addr) (v1 v2 : V), vs = [.ref a, v1, v2] ∧ H a = some (.ins C dx []) ∧ Any K H v1 ∧ Any K H v2 ∧ (∀ b, v2 = .int b → Sz 7900 b) ∧
  (∀ t b, v1 = .int t → v2 = .int b → b ≠ 0 → ∀ H', But a H H' → H' a = some (.ins C dx (amF (nrm t b).1 (nrm t b).2)) → Q .non H') ∧
  (wholeV v1 = true → v2 = .int 0 → ∀ H', But a H H' → E (.ref CN) none H') ∧
  (wholeV v1 = false → ∀ (H' : Hp) (dd : Addr), But a H H' → H' dd = none → E (.ref CA) (some dd) (upd H' dd (.xd [("value", v1)]))) ∧
  (wholeV v1 = true → wholeV v2 = false → ∀ (H' : Hp) (dd : Addr), But a H H' → H' dd = none → E (.ref CA) (some dd) (upd H' dd (.xd [("value", v2)])))
def spIsNum (K : PySem.W.Frag) (C : Addr) : Sp := fun vs H Q _ => ∃ v, vs = [v] ∧ ((IsC C H v ∧ Q (.bl true) H) ∨ (∃ d, Rd K H v d ∧ Q (.bl (wholeV v)) H))
def spOf (K : PySem.W.Frag) (C CA : Addr) : Sp := fun vs H Q E => ∃ v, vs = [v] ∧ ((∃ t b, Num C H v t b ∧ b ≠ 0 ∧ Sz 7900 b ∧ ∀ z H', Same H H' → Am C H' z (nrm t b).1 (nrm t b).2 → Q z H') ∨
  (∃ d, Rd K H v d ∧ wholeV v = false ∧ ∀ (H' : Hp) (dd : Addr), Same H H' → H' dd = none → E (.ref CA) (some dd) (upd H' dd (.xd [("value", v)]))))
/-- self op other, an Amount told -/
def spBin (C : Addr) (g : Int → Int → Int → Int → Int × Int) : Sp := fun vs H Q _ => ∃ (x y : V) (t b u d : Int), vs = [x, y] ∧ Am C H x t b ∧ Num C H y u d ∧ 0 < b ∧ 0 < d ∧ Sz 60000 t ∧ Sz 3900 b ∧ Sz 60000 u ∧ Sz 3900 d ∧
  ∀ z H', Same H H' → Am C H' z (g t b u d).1 (g t b u d).2 → Q z H'
def gAdd (t b u d : Int) : Int × Int := nrm (t * d + u * b) (b * d)
def gSub (t b u d : Int) : Int × Int := nrm (t * d - u * b) (b * d)
def gMul (t b u d : Int) : Int × Int := nrm (t * u) (b * d)
def gRsub (t b u d : Int) : Int × Int := gSub (nrm u d).1 (nrm u d).2 t b
def gMod (t b u d : Int) : Int × Int := gSub t b (gMul (nrm u d).1 (nrm u d).2 ((t * d).fdiv (b * u)) 1).1 (gMul (nrm u d).1 (nrm u d).2 ((t * d).fdiv (b * u)) 1).2
/-- self // other -/
def spFdiv (C CN : Addr) : Sp := fun vs H Q E => ∃ (x y : V) (t b u d : Int), vs = [x, y] ∧ Am C H x t b ∧ Num C H y u d ∧ 0 < b ∧ 0 < d ∧ Sz 60000 t ∧ Sz 3900 b ∧ Sz 4000 u ∧ Sz 3900 d ∧
  (u = 0 → ∀ H', Same H H' → E (.ref CN) none H') ∧ (u ≠ 0 → ∀ H', Same H H' → Q (.int ((t * d).fdiv (b * u))) H')
/-- other // self -/
def spRfdiv (C CN : Addr) : Sp := fun vs H Q E => ∃ (x y : V) (t b u d : Int), vs = [x, y] ∧ Am C H x t b ∧ Num C H y u d ∧ 0 < b ∧ 0 < d ∧ Sz 4000 t ∧ Sz 3900 b ∧ Sz 60000 u ∧ Sz 3900 d ∧
  (t = 0 → ∀ H', Same H H' → E (.ref CN) none H') ∧ (t ≠ 0 → ∀ H', Same H H' → Q (.int (((nrm u d).1 * b).fdiv ((nrm u d).2 * t))) H')
def spMod (C CN : Addr) : Sp := fun vs H Q E => ∃ (x y : V) (t b u d : Int), vs = [x, y] ∧ Am C H x t b ∧ Num C H y u d ∧ 0 < b ∧ 0 < d ∧ Sz 20000 t ∧ Sz 1900 b ∧ Sz 4000 u ∧ Sz 1900 d ∧
  (u = 0 → ∀ H', Same H H' → E (.ref CN) none H') ∧ (u ≠ 0 → ∀ z H', Same H H' → Am C H' z (gMod t b u d).1 (gMod t b u d).2 → Q z H')
def spRmod (C CN : Addr) : Sp := fun vs H Q E => ∃ (x y : V) (t b u d : Int), vs = [x, y] ∧ Am C H x t b ∧ Num C H y u d ∧ 0 < b ∧ 0 < d ∧ Sz 4000 t ∧ Sz 1900 b ∧ Sz 20000 u ∧ Sz 1900 d ∧
  (t = 0 → ∀ H', Same H H' → E (.ref CN) none H') ∧ (t ≠ 0 → ∀ z H', Same H H' → Am C H' z (gMod (nrm u d).1 (nrm u d).2 t b).1 (gMod (nrm u d).1 (nrm u d).2 t b).2 → Q z H')
def spOver (C CN : Addr) : Sp := fun vs H Q E => ∃ (x y : V) (t b u d : Int), vs = [x, y] ∧ Am C H x t b ∧ Num C H y u d ∧ 0 < b ∧ 0 < d ∧ Sz 60000 t ∧ Sz 3900 b ∧ Sz 4000 u ∧ Sz 3900 d ∧
  (u = 0 → ∀ H', Same H H' → E (.ref CN) none H') ∧ (u ≠ 0 → ∀ z H', Same H H' → Am C H' z (nrm (t * d) (b * u)).1 (nrm (t * d) (b * u)).2 → Q z H')
def spNeg (C : Addr) : Sp := fun vs H Q _ => ∃ (x : V) (t b : Int), vs = [x] ∧ Am C H x t b ∧ 0 < b ∧ Sz 7900 b ∧ ∀ z H', Same H H' → Am C H' z (nrm (-t) b).1 (nrm (-t) b).2 → Q z H'
def spAbs (C : Addr) : Sp := fun vs H Q _ => ∃ (x : V) (t b : Int), vs = [x] ∧ Am C H x t b ∧ 0 < b ∧ Sz 7900 b ∧ ∀ z H', Same H H' → Am C H' z (nrm (if t < 0 then -t else t) b).1 (nrm (if t < 0 then -t else t) b).2 → Q z H'
def spCmp (C : Addr) (p : Int → Int → Bool) : Sp := fun vs H Q _ => ∃ (x y : V) (t b u d : Int), vs = [x, y] ∧ Am C H x t b ∧ Num C H y u d ∧ Sz 60000 t ∧ Sz 60000 b ∧ Sz 60000 u ∧ Sz 60000 d ∧ ∀ H', Same H H' → Q (.bl (p (t * d) (u * b))) H'
def spEq (K : PySem.W.Frag) (C : Addr) : Sp := fun vs H Q _ => ∃ (x y : V) (t b : Int), vs = [x, y] ∧ Am C H x t b ∧
  ((∃ u d, Num C H y u d ∧ ∀ H', Same H H' → Q (.bl (decide (t = u ∧ b = d))) H') ∨ (∃ dd, Rd K H y dd ∧ wholeV y = false ∧ ∀ H', Same H H' → Q (.bl false) H'))
def spBool (C : Addr) : Sp := fun vs H Q _ => ∃ (x : V) (t b : Int), vs = [x] ∧ Am C H x t b ∧ Q (.bl (decide (t ≠ 0))) H
def spIsWhole (C : Addr) : Sp := fun vs H Q _ => ∃ (x : V) (t b : Int), vs = [x] ∧ Am C H x t b ∧ Q (.bl (decide (b = 1))) H
theorem str_len (x y : Str) : (x ++ y).length = x.length + y.length := by
  show (x ++ y).cps.size = x.cps.size + y.cps.size
  rw [← Array.length_toList, cps_append, List.length_append, Array.length_toList, Array.length_toList]
theorem str_ext {x y : Str} (h : x.cps.toList = y.cps.toList) : x = y := by
  cases x; cases y
  congr 1
  exact Array.toList_inj.mp h
theorem str_emp (x : Str) : Str.empty ++ x = x := str_ext (by rw [cps_append]; rfl)
def amS (t b : Int) : Str := if b = 1 then toString t else (Str.ofString (toString t)) ++ (Str.ofString "/") ++ (Str.ofString (toString b))
def spStr (C : Addr) : Sp := fun vs H Q _ => ∃ (x : V) (t b : Int), vs = [x] ∧ Am C H x t b ∧ Sz 1900 t ∧ Sz 1900 b ∧ Q (.str (amS t b)) H
section
variable {K : PySem.W.Frag} {C CA CN : Addr} {H : Hp} {Q : VK} {E : XK} {t b : Int}
theorem made_same {x dx : Addr} {o : HO} (hx : H x = none) (hd : H dx = none) {H' : Hp} (B : But x (upd (upd H dx o) x (.ins C dx [])) H') : Same H H' := fun c u e =>
  B c u (ne_of_none e hx) (by rw [upd_ne (ne_of_none e hx), upd_ne (ne_of_none e hd)]; exact e)
/-- Amount(t, b) -/
theorem am_mk (hb : b ≠ 0) (hs : Sz 7900 b) {Q : Addr → Hp → Prop} (k : ∀ (z : Addr) H', Same H H' → Am C H' (.ref z) (nrm t b).1 (nrm t b).2 → Q z H') :
    ∀ x dx, H x = none → H dx = none → dx ≠ x → spAmI K C CA CN [.ref x, .int t, .int b] (upd (upd H dx (.own x)) x (.ins C dx [])) (fun v H3 => v = .non ∧ Q x H3) E := by
  intro x dx hx hd n
  unfold spAmI
  refine ⟨x, dx, _, _, rfl, upd_same, .d _ (.int t), .d _ (.int b), fun b' e => by cases e; exact hs, fun t' b' e1 e2 _ H' B e => ?_, fun _ e => ?_, fun e => ?_, fun _ e => ?_⟩
  · cases e1
    cases e2
    exact ⟨rfl, k _ _ (made_same hx hd B) ⟨x, dx, rfl, e⟩⟩
  · cases e
    exact absurd rfl hb
  · cases e
  · cases e
/-- Amount(t, 0) -/
theorem am_mk0 {Q : Addr → Hp → Prop} (hb : b = 0) (k : ∀ H', Same H H' → E (.ref CN) none H') :
    ∀ x dx, H x = none → H dx = none → dx ≠ x → spAmI K C CA CN [.ref x, .int t, .int b] (upd (upd H dx (.own x)) x (.ins C dx [])) (fun v H3 => v = .non ∧ Q x H3) E := by
  intro x dx hx hd n
  subst hb
  unfold spAmI
  refine ⟨x, dx, _, _, rfl, upd_same, .d _ (.int t), .d _ (.int 0), fun b' e => by cases e; exact Sz.mono (m := 1) (by unfold Sz; decide) (by decide), fun t' b' e1 e2 h H' B e => ?_, fun _ e H' B => k H' (made_same hx hd B), fun e => ?_, fun _ e => ?_⟩
  · cases e2
    exact absurd rfl h
  · cases e
  · cases e
end

/-! ### amounts by their value -/
def Low (t b : Int) : Prop := 0 < b ∧ Int.gcd t b = 1
theorem nrm_rep {t b : Int} (h : b ≠ 0) : ∃ G e c : Int, 0 < G ∧ t = G * e ∧ b = G * c ∧ Int.gcd e c = 1 ∧ nrm t b = if b < 0 then (-e, -c) else (e, c) := by
  have g := gcd_pos (t := t) h
  obtain ⟨c, hc⟩ := gcd_dvd_b t b
  obtain ⟨e, he⟩ : (Int.gcd t b : Int) ∣ t := Int.gcd_dvd_left t b
  have hn : 0 < Int.gcd t b := by omega
  have hg : Int.gcd e c = 1 := by
    have q : Int.gcd t b = Int.gcd t b * Int.gcd e c := by
      have h1 : Int.gcd t b = Int.gcd (Int.gcd t b * e) (Int.gcd t b * c) := by rw [← he, ← hc]
      rw [Int.gcd_mul_left] at h1
      simpa using h1
    have q2 : Int.gcd t b * 1 = Int.gcd t b * Int.gcd e c := by rw [Nat.mul_one]; exact q
    exact (Nat.eq_of_mul_eq_mul_left hn q2).symm
  refine ⟨_, e, c, g, he, hc, hg, ?_⟩
  unfold nrm
  generalize (Int.gcd t b : Int) = G at hc he g
  split
  · rw [he, hc, (fdiv_key g).2, (fdiv_key g).2]
  · rw [he, hc, (fdiv_key g).1, (fdiv_key g).1]
theorem nrm_low {t b : Int} (h : b ≠ 0) : Low (nrm t b).1 (nrm t b).2 := by
  refine ⟨nrm_pos h, ?_⟩
  obtain ⟨G, e, c, g, he, hc, hg, e1⟩ := nrm_rep (t := t) h
  rw [e1]
  split
  · show Int.gcd (-e) (-c) = 1
    rw [Int.gcd_neg, Int.neg_gcd, hg]
  · exact hg
theorem nrm_ratio {t b : Int} (h : b ≠ 0) : (nrm t b).1 * b = t * (nrm t b).2 := by
  obtain ⟨G, e, c, g, he, hc, hg, e1⟩ := nrm_rep (t := t) h
  rw [e1]
  split <;> grind
theorem low_unique {t b t' b' : Int} (h : Low t b) (h' : Low t' b') (e : t * b' = t' * b) : t = t' ∧ b = b' := by
  have e1 : t.natAbs * b'.natAbs = t'.natAbs * b.natAbs := by rw [← Int.natAbs_mul, ← Int.natAbs_mul, e]
  have c : Nat.Coprime b.natAbs t.natAbs := by
    show Nat.gcd _ _ = 1
    rw [Nat.gcd_comm]
    exact h.2
  have c' : Nat.Coprime b'.natAbs t'.natAbs := by
    show Nat.gcd _ _ = 1
    rw [Nat.gcd_comm]
    exact h'.2
  have d1 : b.natAbs ∣ b'.natAbs := c.dvd_of_dvd_mul_left ⟨t'.natAbs, by rw [e1, Nat.mul_comm]⟩
  have d2 : b'.natAbs ∣ b.natAbs := c'.dvd_of_dvd_mul_left ⟨t.natAbs, by rw [← e1, Nat.mul_comm]⟩
  have hb := Nat.dvd_antisymm d1 d2
  have p := h.1
  have p' := h'.1
  have eb : b = b' := by omega
  subst eb
  exact ⟨Int.eq_of_mul_eq_mul_right (by omega) e, rfl⟩
theorem rat_low (q : Rat) : Low q.num (q.den : Int) := ⟨by have := q.den_pos; omega, q.reduced⟩
theorem den_pos (q : Rat) : 0 < (q.den : Int) := (rat_low q).1
theorem den_ne (q : Rat) : ((q.den : Int) : Rat) ≠ 0 := by
  intro z
  have : (q.den : Int) = 0 := by exact_mod_cast z
  have := den_pos q
  omega
theorem num_eq (q : Rat) : (q.num : Rat) = q * ((q.den : Int) : Rat) := by
  have h : (q.num : Rat) / ((q.den : Int) : Rat) = q := by rw [← Rat.divInt_eq_div]; exact Rat.num_divInt_den q
  have d := den_ne q
  grind
/-- in lowest terms: the value's own top and bottom -/
theorem nrm_rat {t b : Int} (h : b ≠ 0) {q : Rat} (hq : (t : Rat) = q * (b : Rat)) : nrm t b = (q.num, (q.den : Int)) := by
  have r := nrm_ratio (t := t) h
  have l := nrm_low (t := t) h
  have hb : (b : Rat) ≠ 0 := by exact_mod_cast h
  have r' : ((nrm t b).1 : Rat) * (b : Rat) = (t : Rat) * ((nrm t b).2 : Rat) := by exact_mod_cast r
  have n := num_eq q
  have e : ((nrm t b).1 : Rat) * ((q.den : Int) : Rat) = (q.num : Rat) * ((nrm t b).2 : Rat) := by
    have : ((nrm t b).1 : Rat) = q * ((nrm t b).2 : Rat) := by
      have : (b : Rat) * ((nrm t b).1 : Rat) = (b : Rat) * (q * ((nrm t b).2 : Rat)) := by grind
      grind
    grind
  have e' : (nrm t b).1 * (q.den : Int) = q.num * (nrm t b).2 := by exact_mod_cast e
  obtain ⟨e1, e2⟩ := low_unique l (rat_low q) e'
  exact Prod.ext e1 e2
theorem rat_add (q r : Rat) : gAdd q.num q.den r.num r.den = ((q + r).num, ((q + r).den : Int)) := by
  unfold gAdd
  refine nrm_rat (by have := Int.mul_pos (den_pos q) (den_pos r); omega) ?_
  have a := num_eq q
  have b := num_eq r
  simp only [Rat.intCast_add, Rat.intCast_sub, Rat.intCast_mul, Rat.intCast_neg]
  grind
theorem rat_sub (q r : Rat) : gSub q.num q.den r.num r.den = ((q - r).num, ((q - r).den : Int)) := by
  unfold gSub
  refine nrm_rat (by have := Int.mul_pos (den_pos q) (den_pos r); omega) ?_
  have a := num_eq q
  have b := num_eq r
  simp only [Rat.intCast_add, Rat.intCast_sub, Rat.intCast_mul, Rat.intCast_neg]
  grind
theorem rat_mul (q r : Rat) : gMul q.num q.den r.num r.den = ((q * r).num, ((q * r).den : Int)) := by
  unfold gMul
  refine nrm_rat (by have := Int.mul_pos (den_pos q) (den_pos r); omega) ?_
  have a := num_eq q
  have b := num_eq r
  simp only [Rat.intCast_add, Rat.intCast_sub, Rat.intCast_mul, Rat.intCast_neg]
  grind
theorem rat_neg (q : Rat) : nrm (-q.num) q.den = ((-q).num, ((-q).den : Int)) := by
  refine nrm_rat (by have := den_pos q; omega) ?_
  have a := num_eq q
  simp only [Rat.intCast_add, Rat.intCast_sub, Rat.intCast_mul, Rat.intCast_neg]
  grind
theorem rat_self (q : Rat) : nrm q.num q.den = (q.num, (q.den : Int)) := nrm_rat (by have := den_pos q; omega) (num_eq q)
theorem rat_rsub (q r : Rat) : gRsub q.num q.den r.num r.den = ((r - q).num, ((r - q).den : Int)) := by
  unfold gRsub
  rw [rat_self]
  exact rat_sub r q
theorem rat_over {q r : Rat} (h : r ≠ 0) : nrm (q.num * r.den) (q.den * r.num) = ((q / r).num, ((q / r).den : Int)) := by
  have n0 : r.num ≠ 0 := fun z => h (Rat.num_eq_zero.mp z)
  refine nrm_rat (Int.mul_ne_zero (by have := den_pos q; omega) n0) ?_
  have a := num_eq q
  have b := num_eq r
  simp only [Rat.intCast_add, Rat.intCast_sub, Rat.intCast_mul, Rat.intCast_neg]
  grind
/-- an Amount of the value q -/
def QA (C : Addr) (H : Hp) (x : V) (q : Rat) : Prop := Am C H x q.num q.den
/-- a number of the value q -/
def QN (C : Addr) (H : Hp) (x : V) (q : Rat) : Prop := Num C H x q.num q.den
theorem QA.same {C : Addr} {H H' : Hp} {x : V} {q : Rat} (S : Same H H') (h : QA C H x q) : QA C H' x q := Am.same S h
theorem QN.same {C : Addr} {H H' : Hp} {x : V} {q : Rat} (S : Same H H') (h : QN C H x q) : QN C H' x q := Num.same S h
theorem QA.qn {C : Addr} {H : Hp} {x : V} {q : Rat} (h : QA C H x q) : QN C H x q := .inr h
theorem qn_int {C : Addr} {H : Hp} (i : Int) : QN C H (.int i) (i : Rat) := .inl ⟨by simp, by simp⟩
/-- the size of a value's top and bottom -/
structure Zr (n : Nat) (q : Rat) : Prop where
  num : Sz n q.num
  den : Sz n (q.den : Int)
section
variable {C CN : Addr} {H : Hp} {x y : V} {q r : Rat} {m n : Nat} {Q : VK} {W W2 : WX} {σ : L2.St}
theorem Zr.mono (h : Zr m q) (l : m ≤ n) : Zr n q := ⟨h.num.mono l, h.den.mono l⟩
theorem Zr.of_nrm {t b : Int} (h : nrm t b = (q.num, (q.den : Int))) (ht : Sz n t) (hb : Sz n b) : Zr n q := by
  have z := nrm_sz ht hb
  rw [h] at z
  exact ⟨z.1, z.2⟩
theorem Zr.add (hq : Zr m q) (hr : Zr n r) : Zr (m + n + 1) (q + r) :=
  .of_nrm (rat_add q r) (((hq.num.mul hr.den).add (hr.num.mul hq.den)).mono (by omega)) ((hq.den.mul hr.den).mono (by omega))
theorem Zr.sub (hq : Zr m q) (hr : Zr n r) : Zr (m + n + 1) (q - r) :=
  .of_nrm (rat_sub q r) (((hq.num.mul hr.den).sub (hr.num.mul hq.den)).mono (by omega)) ((hq.den.mul hr.den).mono (by omega))
theorem Zr.mul (hq : Zr m q) (hr : Zr n r) : Zr (m + n) (q * r) := .of_nrm (rat_mul q r) (hq.num.mul hr.num) (hq.den.mul hr.den)
theorem Zr.neg (hq : Zr m q) : Zr m (-q) := .of_nrm (rat_neg q) hq.num.neg hq.den
theorem Zr.int {i : Int} (h : Sz n i) (hn : 0 < n) : Zr n (i : Rat) := ⟨by rw [Rat.num_intCast]; exact h, by rw [Rat.den_intCast]; exact Sz.mono (m := 1) (by unfold Sz; decide) hn⟩
/-- x + y -/
theorem q_add (hx : QA C H x q) (hy : QN C H y r) (zx : Zr m q) (zy : Zr n r) (hm : m ≤ 3900) (hn : n ≤ 3900) (k : ∀ z H', Same H H' → QA C H' z (q + r) → Q z H') : rOwn C (spBin C gAdd) W σ x y H Q :=
  ⟨Am.isC hx, Num.or hy, x, y, _, _, _, _, rfl, hx, hy, den_pos q, den_pos r, zx.num.mono (by omega), zx.den.mono hm, zy.num.mono (by omega), zy.den.mono hn, fun z H' S h => k z H' S (by rw [rat_add] at h; exact h)⟩
end
def rsum (qs : List Rat) : Rat := qs.foldl (· + ·) 0
/-- Amount.total -/
def spTotal (K : PySem.W.Frag) (C : Addr) : Sp := fun vs H Q _ => ∃ (a : Addr) (xs : List V) (qs : List Rat), vs = [.ref a] ∧ (SqL K H a xs ∨ SqT K H a xs) ∧ xs.length = qs.length ∧ qs.length ≤ 20 ∧ (∀ (i : Nat) (v : V) (q : Rat), xs[i]? = some v → qs[i]? = some q → QN C H v q ∧ Zr 110 q) ∧
  ∀ z H', Same H H' → QA C H' z (rsum qs) → Q z H'

def Pr (K : PySem.W.Frag) (H : Hp) (x : V) (t b : Int) : Prop := ∃ p, x = .ref p ∧ SqT K H p [.int t, .int b]
theorem Pr.same {K : PySem.W.Frag} {H H' : Hp} {x : V} {t b : Int} (S : Same H H') (h : Pr K H x t b) : Pr K H' x t b := by
  obtain ⟨p, rfl, h⟩ := h
  exact ⟨p, rfl, Same.tup S h⟩
theorem sqT_hd {K : PySem.W.Frag} {H : Hp} {n : Nat} {c p q : Addr} {xs : List V} (hP : Pen n c H p) (h : SqT K H q xs) : SqT K (Hd p H) q xs := by
  obtain ⟨ns, b, g, h1, _⟩ := hP.ex
  rcases h with (h | ⟨o, h⟩) | h
  · exact .inl (.inl (Hd.of (fun z => by rw [z, h1] at h; cases h) h))
  · exact .inl (.inr ⟨o, Hd.of (fun z => by rw [z, h1] at h; cases h) h⟩)
  · exact .inr h
theorem Pr.hd {K : PySem.W.Frag} {H : Hp} {n : Nat} {c p : Addr} {x : V} {t b : Int} (h : Pr K H x t b) (hP : Pen n c H p) : Pr K (Hd p H) x t b := by
  obtain ⟨q, rfl, h⟩ := h
  exact ⟨q, rfl, sqT_hd hP h⟩
theorem Am.hd {C : Addr} {H : Hp} {n : Nat} {c p : Addr} {x : V} {t b : Int} (h : Am C H x t b) (hP : Pen n c H p) : Am C (Hd p H) x t b := by
  obtain ⟨a, dx, rfl, e⟩ := h
  obtain ⟨ns, b', g, h1, _⟩ := hP.ex
  exact ⟨a, dx, rfl, Hd.of (fun z => by rw [z, h1] at e; cases e) e⟩
theorem Num.hd {C : Addr} {H : Hp} {n : Nat} {c p : Addr} {x : V} {t b : Int} (h : Num C H x t b) (hP : Pen n c H p) : Num C (Hd p H) x t b := h.elim .inl fun h => .inr (h.hd hP)
theorem low_nrm {t b : Int} (h : Low t b) : nrm t b = (t, b) := by
  unfold nrm
  rw [if_neg (by have := h.1; omega), h.2]
  simp
theorem low_nrm_neg {t b : Int} (h : Low t b) : nrm (-t) (-b) = (t, b) := by
  unfold nrm
  rw [if_pos (by have := h.1; omega), Int.gcd_neg, Int.neg_gcd, h.2]
  show ((-t).fdiv (-1), (-b).fdiv (-1)) = (t, b)
  rw [Int.neg_fdiv_neg, Int.neg_fdiv_neg, Int.fdiv_one, Int.fdiv_one]
def spLow (K : PySem.W.Frag) : Sp := fun vs H Q _ => ∃ u l : Int, vs = [.int u, .int l] ∧ l ≠ 0 ∧ Sz 60000 u ∧ Sz 7900 l ∧ ∀ x H', Same H H' → Pr K H' x (nrm u l).1 (nrm u l).2 → Q x H'
def spPair (K : PySem.W.Frag) : Sp := fun vs H Q _ => ∃ (p c : Addr) (n : Nat), vs = [.ref p] ∧ Pen n c H p ∧ n ≤ 100000000 ∧ ∀ x t b H', Pen (n + 5) c H' p → But p H H' → Low t b → Sz 110 t → Sz 110 b → Pr K (Hd p H') x t b → Q x H'

def spNumber (K : PySem.W.Frag) (C : Addr) : Sp := fun vs H Q _ => ∃ (p c : Addr) (n : Nat) (y : V) (t b : Int), vs = [.ref p, y] ∧ Pen n c H p ∧ n ≤ 100000000 ∧ Pr K (Hd p H) y t b ∧ Low t b ∧ Sz 110 t ∧ Sz 110 b ∧ ∀ x H', Pen (n + 2) c H' p → But p H H' → Num C (Hd p H') x t b → Q x H'
def spNear (K : PySem.W.Frag) : Sp := fun vs H Q _ => ∃ (p c : Addr) (n : Nat) (y : V) (t b : Int), vs = [.ref p, y] ∧ Pen n c H p ∧ n ≤ 10000000 ∧ Pr K (Hd p H) y t b ∧ Low t b ∧ Sz 110 t ∧ Sz 110 b ∧ ∀ x u d H', Pen (n + 10) c H' p → But p H H' → Low u d → Sz 110 u → Sz 110 d → Pr K (Hd p H') x u d → Q x H'
def NP (C : Addr) (H : Hp) (x y : V) (t b u d : Int) : Prop := (Am C H x t b ∧ Num C H y u d) ∨ (x = .int t ∧ b = 1 ∧ Am C H y u d)
theorem NP.same {C : Addr} {H H' : Hp} {x y : V} {t b u d : Int} (S : Same H H') (h : NP C H x y t b u d) : NP C H' x y t b u d := h.elim (fun h => .inl ⟨h.1.same S, h.2.same S⟩) fun h => .inr ⟨h.1, h.2.1, h.2.2.same S⟩
section
variable {K : PySem.W.Frag} {C : Addr} {H : Hp} {x y : V} {t b u d : Int} {Q : VK} {σ : L2.St}
theorem eq_same {x y : Str} (e : x = y) (q : Q (.bl true) H) : rEqO (.str x) (.str y) H Q := by rw [e]; exact eq_self q
theorem ne_same {x y : Str} (e : x = y) (q : Q (.bl false) H) : rNeO (.str x) (.str y) H Q := by rw [e]; exact ne_self q
theorem Num.cd (h : Num C H y u d) : IsCD K C H y := h.elim (fun h => .inr ⟨_, by rw [h.1]; exact .int _⟩) fun h => .inl h.isC
theorem cmp_np {p p' : Int → Int → Bool} (hp : ∀ i j, p' j i = p i j) (np : NP C H x y t b u d) (zt : Sz 110 t) (zb : Sz 110 b) (zu : Sz 110 u) (zd : Sz 110 d) (k : ∀ H', Same H H' → Q (.bl (p (t * d) (u * b))) H') :
    orS (rOwn C (spCmp C p) noW) (rRef C (spCmp C p') noW) σ x y H Q := by
  rcases np with ⟨hx, hy⟩ | ⟨rfl, rfl, hy⟩
  · exact .inl ⟨hx.isC, hy.or, x, y, t, b, u, d, rfl, hx, hy, zt.mono (by decide), zb.mono (by decide), zu.mono (by decide), zd.mono (by decide), k⟩
  · exact .inr ⟨hy.isC, ⟨_, rfl⟩, y, _, u, d, t, 1, rfl, hy, .inl ⟨rfl, rfl⟩, zu.mono (by decide), zd.mono (by decide), zt.mono (by decide), zb.mono (by decide), fun H' S => by rw [hp]; exact k H' S⟩
theorem eq_np (np : NP C H x y t b u d) (k : ∀ H', Same H H' → Q (.bl (decide (t = u ∧ b = d))) H') : orS (rEqO1 K C (spEq K C)) (rEqO2 C (spEq K C)) σ x y H Q := by
  rcases np with ⟨hx, hy⟩ | ⟨rfl, rfl, hy⟩
  · exact .inl ⟨hx.isC, hy.cd, x, y, t, b, rfl, hx, .inl ⟨u, d, hy, k⟩⟩
  · exact .inr ⟨hy.isC, ⟨_, rfl⟩, y, _, u, d, rfl, hy, .inl ⟨t, 1, .inl ⟨rfl, rfl⟩, fun H' S => by rw [show (decide (u = t ∧ d = 1)) = decide (t = u ∧ 1 = d) by congr 1; exact propext ⟨fun h => ⟨h.1.symm, h.2.symm⟩, fun h => ⟨h.1.symm, h.2.symm⟩⟩]; exact k H' S⟩⟩
theorem ne_np (np : NP C H x y t b u d) (k : ∀ H', Same H H' → Q (.bl (!decide (t = u ∧ b = d))) H') : orS (rNeO1 K C (spEq K C)) (rNeO2 C (spEq K C)) σ x y H Q := by
  rcases np with ⟨hx, hy⟩ | ⟨rfl, rfl, hy⟩
  · exact .inl ⟨hx.isC, hy.cd, x, y, t, b, rfl, hx, .inl ⟨u, d, hy, fun H' S => ⟨_, rfl, k H' S⟩⟩⟩
  · exact .inr ⟨hy.isC, ⟨_, rfl⟩, y, _, u, d, rfl, hy, .inl ⟨t, 1, .inl ⟨rfl, rfl⟩, fun H' S => ⟨_, rfl, by rw [show (decide (u = t ∧ d = 1)) = decide (t = u ∧ 1 = d) by congr 1; exact propext ⟨fun h => ⟨h.1.symm, h.2.symm⟩, fun h => ⟨h.1.symm, h.2.symm⟩⟩]; exact k H' S⟩⟩⟩
end
def spSigns (K : PySem.W.Frag) (C : Addr) : Sp := fun vs H Q _ => ∃ (x y z w : V) (t b u d : Int), vs = [x, y, z, w] ∧ NP C H x y t b u d ∧ Pr K H z t b ∧ Pr K H w u d ∧ Low t b ∧ Low u d ∧ Sz 110 t ∧ Sz 110 b ∧ Sz 110 u ∧ Sz 110 d ∧ ∀ H', Same H H' → Q (.bl true) H'
def spAlone (K : PySem.W.Frag) (C : Addr) : Sp := fun vs H Q _ => ∃ (pn x z : V) (t b : Int), vs = [pn, x, z] ∧ Am C H x t b ∧ Pr K H z t b ∧ Low t b ∧ Sz 110 t ∧ Sz 110 b ∧ ∀ H', Same H H' → Q (.bl true) H'
def spDict (K : PySem.W.Frag) : Sp := fun vs H Q _ => ∃ (z : V) (t b : Int), vs = [z] ∧ Pr K H z t b ∧ ∀ x H', Same H H' → (∃ d, Rd K H' x d ∧ wholeV x = false) → Q x H'
def L2R (R : V → Rat → Prop) (xs : List V) (qs : List Rat) : Prop := xs.length = qs.length ∧ ∀ (i : Nat) (v : V) (q : Rat), xs[i]? = some v → qs[i]? = some q → R v q
theorem L2R.nil {R : V → Rat → Prop} : L2R R [] [] := ⟨rfl, by simp⟩
theorem L2R.imp {R R' : V → Rat → Prop} {xs : List V} {qs : List Rat} (h : L2R R xs qs) (f : ∀ v q, R v q → R' v q) : L2R R' xs qs := ⟨h.1, fun i v q a b => f v q (h.2 i v q a b)⟩
theorem L2R.snoc {R : V → Rat → Prop} {xs : List V} {qs : List Rat} {v : V} {q : Rat} (h : L2R R xs qs) (r : R v q) : L2R R (xs ++ [v]) (qs ++ [q]) := by
  refine ⟨by simp [h.1], fun i w e h1 h2 => ?_⟩
  by_cases hi : i < xs.length
  · rw [List.getElem?_append_left hi] at h1
    rw [List.getElem?_append_left (by rw [← h.1]; exact hi)] at h2
    exact h.2 i w e h1 h2
  · have e1 : i = xs.length := by
      have : i < (xs ++ [v]).length := (List.getElem?_eq_some_iff.mp h1).1
      simp at this
      omega
    subst e1
    simp at h1
    rw [h.1] at h2
    simp at h2
    rw [← h1, ← h2]
    exact r
theorem L2R.at {R : V → Rat → Prop} {xs : List V} {qs : List Rat} {i : Nat} {v : V} (h : L2R R xs qs) (e : xs[i]? = some v) : ∃ q, qs[i]? = some q ∧ qs.take (i + 1) = qs.take i ++ [q] ∧ R v q := by
  have hi : i < qs.length := by rw [← h.1]; exact (List.getElem?_eq_some_iff.mp e).1
  exact ⟨qs[i], by simp [hi], by rw [List.take_succ]; simp [hi], h.2 i v _ e (by simp [hi])⟩
theorem low_val {t b : Int} (h : Low t b) : ∃ q : Rat, q.num = t ∧ (q.den : Int) = b := by
  have hp := h.1
  refine ⟨⟨t, b.toNat, by omega, ?_⟩, rfl, by show ((b.toNat : Nat) : Int) = b; omega⟩
  have e : b.toNat = b.natAbs := by omega
  rw [e]
  exact h.2
theorem rsum_snoc (qs : List Rat) (q : Rat) : rsum (qs ++ [q]) = rsum qs + q := by
  unfold rsum
  rw [List.foldl_append]
  rfl
section
variable {K : PySem.W.Frag} {C p c dl : Addr} {n : Nat} {H H' : Hp} {x y : V} {t b u d : Int} {o : HO} {acc : List V}
theorem Pr.but (hP : Pen n c H p) (B : But p H H') (h : Pr K H x t b) : Pr K H' x t b := (h.hd hP).same B.sub
theorem Num.but (hP : Pen n c H p) (B : But p H H') (h : Num C H x t b) : Num C H' x t b := (h.hd hP).same B.sub
theorem Pr.put (hd : H dl = some (.lst acc)) (h : Pr K H x t b) : Pr K (upd H dl o) x t b := by
  obtain ⟨q, rfl, h⟩ := h
  refine ⟨q, rfl, ?_⟩
  rcases h with (h | ⟨o', h⟩) | h
  · exact .inl (.inl (by rw [upd_ne (fun z => by rw [z, hd] at h; cases h)]; exact h))
  · exact .inl (.inr ⟨o', by rw [upd_ne (fun z => by rw [z, hd] at h; cases h)]; exact h⟩)
  · exact .inr h
theorem Num.put (hd : H dl = some (.lst acc)) (h : Num C H x t b) : Num C (upd H dl o) x t b := by
  rcases h with h | ⟨a, dx, rfl, e⟩
  · exact .inl h
  · exact .inr ⟨a, dx, rfl, by rw [upd_ne (fun z => by rw [z, hd] at e; cases e)]; exact e⟩
end
theorem L2R.all {R : V → Rat → Prop} {P : Rat → Prop} {xs : List V} {qs : List Rat} (h : L2R (fun v q => R v q ∧ P q) xs qs) : ∀ q ∈ qs, P q := by
  intro q hq
  obtain ⟨i, hi, e⟩ := List.mem_iff_getElem.mp hq
  have hx : i < xs.length := by rw [h.1]; exact hi
  exact (h.2 i xs[i] q (by simp [hx]) (by simp [hi, e])).2
theorem L2R.and {R : V → Rat → Prop} {P : Rat → Prop} {xs : List V} {qs : List Rat} (h : L2R R xs qs) (f : ∀ q ∈ qs, P q) : L2R (fun v q => R v q ∧ P q) xs qs := ⟨h.1, fun i v q a b => ⟨h.2 i v q a b, f q (List.mem_of_getElem? b)⟩⟩
theorem str_num {C : Addr} {H : Hp} {v : V} {t b : Int} {Q : VK} (hv : Num C H v t b) (zt : Sz 1900 t) (zb : Sz 1900 b) (q : Q (.str (amS t b)) H) :
    (∃ i, [v] = [V.int i] ∧ i.natAbs.log2 < 1920 ∧ Q (.str (Str.ofString (toString i))) H) ∨ ∃ x, [v] = [x] ∧ IsC C H x ∧ spStr C [x] H (fun w H' => (∃ z, w = .str z) ∧ Q w H') fun _ _ _ => False := by
  rcases hv with ⟨rfl, rfl⟩ | hv
  · refine .inl ⟨t, rfl, PySem.Flt.log2_lt_of (by decide) (zt.mono (by decide)), ?_⟩
    have e : amS t 1 = Str.ofString (toString t) := by unfold amS; rw [if_pos rfl]
    rw [e] at q
    exact q
  · exact .inr ⟨v, rfl, hv.isC, v, t, b, rfl, hv, zt, zb, ⟨_, rfl⟩, q⟩
theorem zr_rsum {qs : List Rat} (h : ∀ q ∈ qs, Zr 110 q) : ∀ k, k ≤ qs.length → Zr (111 * k + 1) (rsum (qs.take k))
  | 0, _ => Zr.mono (m := 1) (show Zr 1 (0 : Rat) from ⟨by unfold Sz; decide, by unfold Sz; decide⟩) (by omega)
  | k + 1, hk => by
    have e : qs.take (k + 1) = qs.take k ++ [qs[k]] := by rw [List.take_succ]; simp [show k < qs.length by omega]
    rw [e, rsum_snoc]
    exact ((zr_rsum h k (by omega)).add (h _ (List.getElem_mem _))).mono (by omega)
theorem ofs_ok (s : String) : ∀ c ∈ (Str.ofString s).cps.toList, c < 0x110000 := by
  intro c hc
  rw [PySem.Str.ofString_eq_toList] at hc
  simp only [List.mem_map] at hc
  obtain ⟨d, _, rfl⟩ := hc
  have h := d.valid
  have e : d.toNat = d.val.toNat := rfl
  rcases h with h | ⟨_, h⟩ <;> (rw [e]; simp only [UInt32.toNat] at h ⊢; omega)
theorem ok_of {x : Str} (h : ∀ c ∈ x.cps.toList, c < 0x110000) : PyData.strOk x = true := by
  unfold PyData.strOk
  rw [Array.all_eq_true']
  intro c hc
  exact decide_eq_true (h c (by simpa using hc))
theorem amS_ok (t b : Int) : PyData.strOk (amS t b) = true := by
  refine ok_of fun c hc => ?_
  unfold amS at hc
  split at hc
  · exact ofs_ok _ c hc
  · rw [cps_append, cps_append] at hc
    rcases List.mem_append.mp hc with hc | hc
    · rcases List.mem_append.mp hc with hc | hc <;> exact ofs_ok _ c hc
    · exact ofs_ok _ c hc
theorem dp_strs {K : PySem.W.Frag} {H : Hp} : ∀ ss : List Str, DpAll K H (ss.map V.str) (ss.map PyData.str)
  | [] => .nil
  | s :: r => .cons (.str s) (dp_strs r)
theorem cl_strs : ∀ ss : List Str, (∀ y ∈ ss, PyData.strOk y = true) → PyData.canLayAll0 (ss.map PyData.str) = true
  | [], _ => rfl
  | s :: r, h => by
    show (PyData.strOk s && PyData.canLayAll0 (r.map PyData.str)) = true
    rw [h s (by simp), cl_strs r fun y m => h y (by simp [m])]
    rfl
def spTotR (K : PySem.W.Frag) : Sp := fun vs H Q _ => ∃ (p c : Addr) (n : Nat), vs = [.ref p] ∧ Pen n c H p ∧ n ≤ 1000000 ∧ ∀ H', Pen (n + 100) c H' p → But p H H' → Q (.bl true) H'
def spLaw (K : PySem.W.Frag) : Sp := fun vs H Q _ => ∃ (a : Addr) (ns : List Int), vs = [.ref a] ∧ SqL K H a (ns.map V.int) ∧ ns.length ≤ 63 ∧ (∀ z ∈ ns, Sz 1048576 z) ∧ ∀ H', Q (.bl true) H'

abbrev s_is_whole : Stmt := (top 9)
abbrev s_Amount_is_number : Stmt := (inClass (top 17) 2)
abbrev s_halves_of : Stmt := (top 15)
abbrev s_Amount_eq : Stmt := (inClass (top 17) 23)
abbrev s_common_divisor : Stmt := (top 14)
abbrev s_Amount_init : Stmt := (inClass (top 17) 0)
abbrev s_Amount_add : Stmt := (inClass (top 17) 7)
abbrev s_Amount_total : Stmt := (inClass (top 17) 4)
abbrev s_Amount_bool : Stmt := (inClass (top 17) 24)
abbrev s_Amount_is_whole : Stmt := (inClass (top 17) 1)
abbrev s_Amount_of : Stmt := (inClass (top 17) 3)
abbrev s_Amount_str : Stmt := (inClass (top 17) 25)
abbrev s__law_dict : Stmt := (top 28)
abbrev s__law_alone_right : Stmt := (top 27)
abbrev s__law_draw : Stmt := (top 20)
abbrev s__law_lowest : Stmt := (top 22)
abbrev s__law_pick : Stmt := (top 21)
abbrev s__law_pair : Stmt := (top 23)
abbrev s__law_near : Stmt := (top 25)
abbrev s__law_number : Stmt := (top 24)
abbrev s__law_pen : Stmt := (top 19)
abbrev s_Amount_ge : Stmt := (inClass (top 17) 22)
abbrev s_Amount_gt : Stmt := (inClass (top 17) 21)
abbrev s_Amount_le : Stmt := (inClass (top 17) 20)
abbrev s_Amount_lt : Stmt := (inClass (top 17) 19)
abbrev s__law_signs_right : Stmt := (top 26)
abbrev s__law_total_right : Stmt := (top 29)
abbrev s_law : Stmt := (top 30)
abbrev s_BadAmount_init : Stmt := (inClass (top 5) 0)
structure Ad where
  f_is_whole : Addr
  d_is_whole : FuncData
  f_Amount_is_number : Addr
  d_Amount_is_number : FuncData
  f_halves_of : Addr
  d_halves_of : FuncData
  f_Amount_eq : Addr
  d_Amount_eq : FuncData
  f_common_divisor : Addr
  d_common_divisor : FuncData
  f_Amount_init : Addr
  d_Amount_init : FuncData
  f_Amount_add : Addr
  d_Amount_add : FuncData
  f_Amount_total : Addr
  d_Amount_total : FuncData
  f_Amount_bool : Addr
  d_Amount_bool : FuncData
  f_Amount_is_whole : Addr
  d_Amount_is_whole : FuncData
  f_Amount_of : Addr
  d_Amount_of : FuncData
  f_Amount_str : Addr
  d_Amount_str : FuncData
  f__law_dict : Addr
  d__law_dict : FuncData
  f__law_alone_right : Addr
  d__law_alone_right : FuncData
  f__law_draw : Addr
  d__law_draw : FuncData
  f__law_lowest : Addr
  d__law_lowest : FuncData
  f__law_pick : Addr
  d__law_pick : FuncData
  f__law_pair : Addr
  d__law_pair : FuncData
  f__law_near : Addr
  d__law_near : FuncData
  f__law_number : Addr
  d__law_number : FuncData
  f__law_pen : Addr
  d__law_pen : FuncData
  f_Amount_ge : Addr
  d_Amount_ge : FuncData
  f_Amount_gt : Addr
  d_Amount_gt : FuncData
  f_Amount_le : Addr
  d_Amount_le : FuncData
  f_Amount_lt : Addr
  d_Amount_lt : FuncData
  f__law_signs_right : Addr
  d__law_signs_right : FuncData
  f__law_total_right : Addr
  d__law_total_right : FuncData
  f_law : Addr
  d_law : FuncData
  f_BadAmount_init : Addr
  d_BadAmount_init : FuncData
  C_BadAmount : Addr
  C_NoDivisor : Addr
  C_Amount : Addr
  p_Amount_is_number : Addr
  p_Amount_is_whole : Addr
  p_Amount_of : Addr
  p_Amount_total : Addr
/-- what the top has left -/
structure Txt (K : PySem.W.Frag) (mg : Str → Option Value) (D : Ad) : Prop where
  F_is_whole : Fun K "is_whole" "is_whole" s_is_whole D.f_is_whole D.d_is_whole
  F_Amount_is_number : Fun K "is_number" "Amount.is_number" s_Amount_is_number D.f_Amount_is_number D.d_Amount_is_number
  F_halves_of : Fun K "halves_of" "halves_of" s_halves_of D.f_halves_of D.d_halves_of
  F_Amount_eq : Fun K "__eq__" "Amount.__eq__" s_Amount_eq D.f_Amount_eq D.d_Amount_eq
  F_common_divisor : Fun K "common_divisor" "common_divisor" s_common_divisor D.f_common_divisor D.d_common_divisor
  F_Amount_init : FunD K "__init__" "Amount.__init__" (defArgs s_Amount_init) (defBody s_Amount_init) (defScope s_Amount_init) [.int (1)] [] D.f_Amount_init D.d_Amount_init
  F_Amount_add : Fun K "__add__" "Amount.__add__" s_Amount_add D.f_Amount_add D.d_Amount_add
  F_Amount_total : Fun K "total" "Amount.total" s_Amount_total D.f_Amount_total D.d_Amount_total
  F_Amount_bool : Fun K "__bool__" "Amount.__bool__" s_Amount_bool D.f_Amount_bool D.d_Amount_bool
  F_Amount_is_whole : Fun K "is_whole" "Amount.is_whole" s_Amount_is_whole D.f_Amount_is_whole D.d_Amount_is_whole
  F_Amount_of : Fun K "of" "Amount.of" s_Amount_of D.f_Amount_of D.d_Amount_of
  F_Amount_str : Fun K "__str__" "Amount.__str__" s_Amount_str D.f_Amount_str D.d_Amount_str
  F__law_dict : Fun K "_law_dict" "_law_dict" s__law_dict D.f__law_dict D.d__law_dict
  F__law_alone_right : Fun K "_law_alone_right" "_law_alone_right" s__law_alone_right D.f__law_alone_right D.d__law_alone_right
  F__law_draw : Fun K "_law_draw" "_law_draw" s__law_draw D.f__law_draw D.d__law_draw
  F__law_lowest : Fun K "_law_lowest" "_law_lowest" s__law_lowest D.f__law_lowest D.d__law_lowest
  F__law_pick : Fun K "_law_pick" "_law_pick" s__law_pick D.f__law_pick D.d__law_pick
  F__law_pair : Fun K "_law_pair" "_law_pair" s__law_pair D.f__law_pair D.d__law_pair
  F__law_near : Fun K "_law_near" "_law_near" s__law_near D.f__law_near D.d__law_near
  F__law_number : Fun K "_law_number" "_law_number" s__law_number D.f__law_number D.d__law_number
  F__law_pen : Fun K "_law_pen" "_law_pen" s__law_pen D.f__law_pen D.d__law_pen
  F_Amount_ge : Fun K "__ge__" "Amount.__ge__" s_Amount_ge D.f_Amount_ge D.d_Amount_ge
  F_Amount_gt : Fun K "__gt__" "Amount.__gt__" s_Amount_gt D.f_Amount_gt D.d_Amount_gt
  F_Amount_le : Fun K "__le__" "Amount.__le__" s_Amount_le D.f_Amount_le D.d_Amount_le
  F_Amount_lt : Fun K "__lt__" "Amount.__lt__" s_Amount_lt D.f_Amount_lt D.d_Amount_lt
  F__law_signs_right : Fun K "_law_signs_right" "_law_signs_right" s__law_signs_right D.f__law_signs_right D.d__law_signs_right
  F__law_total_right : Fun K "_law_total_right" "_law_total_right" s__law_total_right D.f__law_total_right D.d__law_total_right
  F_law : Fun K "law" "law" s_law D.f_law D.d_law
  F_BadAmount_init : Fun K "__init__" "BadAmount.__init__" s_BadAmount_init D.f_BadAmount_init D.d_BadAmount_init
  m_is_whole : mg "is_whole" = some (.ref D.f_is_whole)
  m_halves_of : mg "halves_of" = some (.ref D.f_halves_of)
  m_common_divisor : mg "common_divisor" = some (.ref D.f_common_divisor)
  m__law_dict : mg "_law_dict" = some (.ref D.f__law_dict)
  m__law_alone_right : mg "_law_alone_right" = some (.ref D.f__law_alone_right)
  m__law_draw : mg "_law_draw" = some (.ref D.f__law_draw)
  m__law_lowest : mg "_law_lowest" = some (.ref D.f__law_lowest)
  m__law_pick : mg "_law_pick" = some (.ref D.f__law_pick)
  m__law_pair : mg "_law_pair" = some (.ref D.f__law_pair)
  m__law_near : mg "_law_near" = some (.ref D.f__law_near)
  m__law_number : mg "_law_number" = some (.ref D.f__law_number)
  m__law_pen : mg "_law_pen" = some (.ref D.f__law_pen)
  m__law_signs_right : mg "_law_signs_right" = some (.ref D.f__law_signs_right)
  m__law_total_right : mg "_law_total_right" = some (.ref D.f__law_total_right)
  m_law : mg "law" = some (.ref D.f_law)
  n_abs : mg "abs" = none
  n_bool : mg "bool" = none
  n_dict : mg "dict" = none
  n_int : mg "int" = none
  n_isinstance : mg "isinstance" = none
  n_len : mg "len" = none
  n_list : mg "list" = none
  n_range : mg "range" = none
  n_repr : mg "repr" = none
  n_str : mg "str" = none
  n_tuple : mg "tuple" = none
  g_BadAmount : mg "BadAmount" = some (.ref D.C_BadAmount)
  x_BadAmount : ExK K D.C_BadAmount
  g_NoDivisor : mg "NoDivisor" = some (.ref D.C_NoDivisor)
  x_NoDivisor : ExK K D.C_NoDivisor
  g_Amount : mg "Amount" = some (.ref D.C_Amount)
  cl_Amount : OwnC K D.C_Amount
  m_is_whole_names : mg "is_whole_names" = some (.ref D.f_is_whole)
  xi_NoDivisor : PySem.W.excIn K D.C_NoDivisor [.type "ValueError", .type "Exception", .type "BaseException", .type "object"] "ValueError.__new__" = true
  kp_NoDivisor : PySem.W.keepIn K (.ref D.C_NoDivisor) = true
  xb_NoDivisor : PySem.W.subIn K (.ref D.C_NoDivisor) (.type "BaseException") = some true
  xt_NoDivisor : PySem.W.typeIn K (.ref D.C_NoDivisor) = some (.type "type")
  mk_Amount : Mk K D.C_Amount D.f_Amount_init
  ne_Amount : PySem.W.findIn K (.ref D.C_Amount) "__ne__" = some (some (.builtin "object.__ne__"))
  no_Amount_bottom : NoAttr K D.C_Amount "bottom"
  no_Amount_top : NoAttr K D.C_Amount "top"
  oc_Amount_add : PySem.W.OpC K D.C_Amount D.f_Amount_add "add"
  rn_Amount_add : ∃ rc, PySem.W.findIn K (.ref D.C_Amount) (dunderR "add") = some rc ∧ (rc = none ∨ ∃ g : Addr, rc = some (.ref g))
  pr_Amount_is_whole : PropOf K D.C_Amount "is_whole" D.p_Amount_is_whole D.f_Amount_is_whole
  rd_Amount : ClX.CRead K D.C_Amount (.type "type")
  sm_Amount_is_number : SMet K D.C_Amount (.type "type") "is_number" D.p_Amount_is_number D.f_Amount_is_number
  sm_Amount_of : SMet K D.C_Amount (.type "type") "of" D.p_Amount_of D.f_Amount_of
  sm_Amount_total : SMet K D.C_Amount (.type "type") "total" D.p_Amount_total D.f_Amount_total
  sp_Amount_bool : PySem.W.findIn K (.ref D.C_Amount) "__bool__" = some (some (.ref D.f_Amount_bool))
  fn_Amount_bool : PySem.W.isFn K (.ref D.f_Amount_bool) = true
  sp_Amount_eq : PySem.W.findIn K (.ref D.C_Amount) "__eq__" = some (some (.ref D.f_Amount_eq))
  fn_Amount_eq : PySem.W.isFn K (.ref D.f_Amount_eq) = true
  sp_Amount_ge : PySem.W.findIn K (.ref D.C_Amount) "__ge__" = some (some (.ref D.f_Amount_ge))
  fn_Amount_ge : PySem.W.isFn K (.ref D.f_Amount_ge) = true
  sp_Amount_gt : PySem.W.findIn K (.ref D.C_Amount) "__gt__" = some (some (.ref D.f_Amount_gt))
  fn_Amount_gt : PySem.W.isFn K (.ref D.f_Amount_gt) = true
  sp_Amount_le : PySem.W.findIn K (.ref D.C_Amount) "__le__" = some (some (.ref D.f_Amount_le))
  fn_Amount_le : PySem.W.isFn K (.ref D.f_Amount_le) = true
  sp_Amount_lt : PySem.W.findIn K (.ref D.C_Amount) "__lt__" = some (some (.ref D.f_Amount_lt))
  fn_Amount_lt : PySem.W.isFn K (.ref D.f_Amount_lt) = true
  sp_Amount_str : PySem.W.findIn K (.ref D.C_Amount) "__str__" = some (some (.ref D.f_Amount_str))
  fn_Amount_str : PySem.W.isFn K (.ref D.f_Amount_str) = true
  o_BadAmount : OexC K D.C_BadAmount
  xf_BadAmount : XfC K D.C_BadAmount
  i_BadAmount : PySem.W.findIn K (.ref D.C_BadAmount) "__init__" = some (some (.ref D.f_BadAmount_init))
  t_BadAmount : PySem.W.typeIn K (.ref D.f_BadAmount_init) = some (.type "function")
  no_BadAmount_value : PySem.W.findIn K (.ref D.C_BadAmount) "value" = some none

section
variable {P : Program} {w : World} {K : PySem.W.Frag} {mg : Str → Option Value} {base : Heap} {D : Ad}
theorem sc_BadAmount_init : FnScope ["self", "value"] ["self", "value"] (defScope s_BadAmount_init) := ⟨rfl, rfl, rfl, by decide +kernel, rfl, by decide +kernel, by decide +kernel⟩
theorem er_BadAmount (T : Txt K mg D) : Er1 P w K mg base "BadAmount" "value" D.C_BadAmount D.f_BadAmount_init D.d_BadAmount_init :=
  ⟨T.o_BadAmount, T.i_BadAmount, T.t_BadAmount, T.g_BadAmount, ok_E1 T.F_BadAmount_init sc_BadAmount_init rfl T.o_BadAmount T.no_BadAmount_value (by decide) (by decide) (fun _ => rfl),
    T.F_BadAmount_init.binds (ps := ["self", "value"]) fun _ _ _ _ _ _ us hl => match us, hl with | [_, _], _ => rfl⟩
theorem sc_is_whole : FnScope ["value"] ["value"] (defScope s_is_whole) := ⟨rfl, rfl, rfl, by decide +kernel, rfl, by decide +kernel, by decide +kernel⟩
theorem ok_is_whole (T : Txt K mg D) : FnG P w K mg base 2 D.f_is_whole D.d_is_whole ["value"] (spWhole K) := by
  refine Fun.okG T.F_is_whole sc_is_whole (fun vs H Q E h => ?_) (fun cdv A outer s H vs Q E hr h => ?_)
  · obtain ⟨v, rfl, hv, k⟩ := h
    rfl
  · obtain ⟨v, rfl, hv, k⟩ := h

    refine ⟨_, (pss_one (ps_ret (pe_and (pe_callB call_is (by rfl) T.n_isinstance (by decide +kernel) (pa_cons (pv 0) (pa_cons (pe_bltn (v := .ty "int") (by rfl) T.n_int (by decide +kernel) rfl) pa_nil))) (pe_one (pe_not (pe_callB call_is (by rfl) T.n_isinstance (by decide +kernel) (pa_cons (pv 0) (pa_cons (pe_bltn (v := .ty "bool") (by rfl) T.n_bool (by decide +kernel) rfl) pa_nil)))))))), ?_⟩
    cases hv with
    | d d h =>
      refine ⟨_, rfl, is_of (by decide) h ⟨_, rfl, ?_⟩⟩
      cases h with
      | int i => exact iteT ⟨_, rfl, is_of (by decide) (.int i) ⟨_, rfl, k⟩⟩
      | bl b => exact iteT ⟨_, rfl, is_of (by decide) (.bl b) ⟨_, rfl, k⟩⟩
      | _ => exact iteF k
    | o C o h =>
      refine ⟨_, rfl, is_own_base o h (by decide) ⟨_, rfl, iteF ?_⟩⟩
      obtain ⟨a, dx, fs, rfl, e⟩ := h
      exact k
theorem sc_Amount_is_number : FnScope ["value"] ["value"] (defScope s_Amount_is_number) := ⟨rfl, rfl, rfl, by decide +kernel, rfl, by decide +kernel, by decide +kernel⟩
theorem ok_Amount_is_number (T : Txt K mg D) : FnG P w K mg base 3 D.f_Amount_is_number D.d_Amount_is_number ["value"] (spIsNum K D.C_Amount) := by
  refine Fun.okG T.F_Amount_is_number sc_Amount_is_number (fun vs H Q E h => ?_) (fun cdv A outer s H vs Q E hr h => ?_)
  · obtain ⟨v, rfl, hv⟩ := h
    rfl
  · obtain ⟨v, rfl, hv⟩ := h
    have G_is_whole : FnG P w K mg base 2 D.f_is_whole D.d_is_whole ["value"] (spWhole K) := ok_is_whole T
    refine ⟨_, (pss_one (ps_ret (pe_or (pe_callB call_is (by rfl) T.n_isinstance (by decide +kernel) (pa_cons (pv 0) (pa_cons (pe_glob (v := .ref D.C_Amount) rfl T.g_Amount rfl) pa_nil))) (pe_one (pc_G G_is_whole (hr.mono (by decide)) takesF T.m_is_whole_names T.F_is_whole.kp (T.F_is_whole.binds (ps := ["value"]) fun _ _ _ _ _ _ us hl => match us, hl with | [_], _ => rfl) .nil (pa_cons (pv 0) pa_nil)))))), ?_⟩
    rcases hv with ⟨h, k⟩ | ⟨d, h, k⟩
    · exact ⟨_, rfl, is_own T.cl_Amount h ⟨_, rfl, iteT k⟩⟩
    · exact ⟨_, rfl, is_data_own T.cl_Amount h ⟨_, rfl, iteF ⟨_, rfl, v, rfl, .d d h, k⟩⟩⟩
theorem sc_halves_of : FnScope ["number"] ["number"] (defScope s_halves_of) := ⟨rfl, rfl, rfl, by decide +kernel, rfl, by decide +kernel, by decide +kernel⟩
theorem ok_halves_of (T : Txt K mg D) : FnG P w K mg base 2 D.f_halves_of D.d_halves_of ["number"] (spHalves K D.C_Amount) := by
  refine Fun.okG T.F_halves_of sc_halves_of (fun vs H Q E h => ?_) (fun cdv A outer s H vs Q E hr h => ?_)
  · obtain ⟨x, t, b, rfl, hx, k⟩ := h
    rfl
  · obtain ⟨x, t, b, rfl, hx, k⟩ := h

    refine ⟨_, (pss_cons (ps_if (pt_val (pe_callB call_is (by rfl) T.n_isinstance (by decide +kernel) (pa_cons (pv 0) (pa_cons (pe_glob (v := .ref D.C_Amount) rfl T.g_Amount rfl) pa_nil)))) (pss_one (ps_ret (pe_tup (pa_cons (pe_fld (pv 0) rfl) (pa_cons (pe_fld (pv 0) rfl) pa_nil))))) pss_nil)
      (pss_one (ps_ret (pe_tup (pa_cons (pv 0) (pa_cons pe_int pa_nil)))))), ?_⟩
    rcases hx with ⟨rfl, rfl⟩ | hx
    · exact ⟨_, rfl, is_data_own T.cl_Amount (.int t) ⟨_, rfl, iteF ⟨_, rfl, by show 2 ≤ sizeLine; decide, fun p hp => k p _ (same_new hp) (.inl (.inl upd_same))⟩⟩⟩
    · refine ⟨_, rfl, is_own T.cl_Amount hx.isC ⟨_, rfl, iteT ?_⟩⟩
      obtain ⟨ax, dx, rfl, ea⟩ := hx
      exact ⟨_, rfl, ax, _, dx, _, _, rfl, ea, T.cl_Amount.cls, T.no_Amount_top, rfl, _, rfl, ax, _, dx, _, _, rfl, ea, T.cl_Amount.cls, T.no_Amount_bottom, rfl, by show 2 ≤ sizeLine; decide, fun p hp => k p _ (same_new hp) (.inl (.inl upd_same))⟩
theorem sc_Amount_eq : FnScope ["self", "other"] ["self", "other"] (defScope s_Amount_eq) := ⟨rfl, rfl, rfl, by decide +kernel, rfl, by decide +kernel, by decide +kernel⟩
theorem ok_Amount_eq (T : Txt K mg D) : FnG P w K mg base 4 D.f_Amount_eq D.d_Amount_eq ["self", "other"] (spEq K D.C_Amount) := by
  refine Fun.okG T.F_Amount_eq sc_Amount_eq (fun vs H Q E h => ?_) (fun cdv A outer s H vs Q E hr h => ?_)
  · obtain ⟨x, y, t, b, rfl, hx, hy⟩ := h
    rfl
  · obtain ⟨x, y, t, b, rfl, hx, hy⟩ := h
    have G_Amount_is_number : FnG P w K mg base 3 D.f_Amount_is_number D.d_Amount_is_number ["value"] (spIsNum K D.C_Amount) := ok_Amount_is_number T
    have G_halves_of : FnG P w K mg base 2 D.f_halves_of D.d_halves_of ["number"] (spHalves K D.C_Amount) := ok_halves_of T
    refine ⟨_, (pss_cons (ps_if (pt_not (pt_val (pst_GW (pe_glob (v := .ref D.C_Amount) rfl T.g_Amount rfl) T.rd_Amount T.sm_Amount_is_number G_Amount_is_number (hr.mono (by decide)) takesF (bndK (ps := ["value"]) (n := 1) (ks := []) T.F_Amount_is_number (fun us ws => match us, ws with | [u0], [] => [u0] | _, _ => []) (fun us ws => match us, ws with | [u0], [] => [u0] | _, _ => []) (fun _ _ _ _ _ _ us ws hu hw => match us, ws, hu, hw with | [_], [], _, _ => rfl) (fun hu hw r1 r2 => by rcases r1 with _ | ⟨u0, r1⟩; (focus (simp at hu)); rcases r1 with _ | ⟨_, _⟩; (rotate_left; (focus (simp at hu))); rcases r2 with _ | ⟨_, _⟩; (rotate_left; (focus (simp at hw))); exact (.cons u0 .nil))) (pa_cons (pv 1) pa_nil) pk_nil))) (pss_one (ps_ret pe_bl)) pss_nil)
      (pss_one (ps_ret (pe_cmpR (op_eqD hr.room.units) (pe_tup (pa_cons (pe_fld (pv 0) rfl) (pa_cons (pe_fld (pv 0) rfl) pa_nil))) (pc_G G_halves_of (hr.mono (by decide)) takesF T.m_halves_of T.F_halves_of.kp (T.F_halves_of.binds (ps := ["number"]) fun _ _ _ _ _ _ us hl => match us, hl with | [_], _ => rfl) .nil (pa_cons (pv 1) pa_nil)) (nomark _))))), ?_⟩
    obtain ⟨ax, dx, rfl, ea⟩ := hx
    rcases hy with ⟨u, d, hy, k⟩ | ⟨dd, hd, hw, k⟩
    · have num' : ∀ Q' : VK, Q' (.bl true) H → ∀ E', spIsNum K D.C_Amount [y] H Q' E' := by
        intro Q' q E'
        rcases hy with ⟨rfl, _⟩ | hn
        · exact ⟨_, rfl, .inr ⟨_, .int u, q⟩⟩
        · exact ⟨_, rfl, .inl ⟨hn.isC, q⟩⟩
      refine ⟨rfl, _, rfl, rfl, rfl, num' _ ⟨_, rfl, iteF ?_⟩ _⟩
      refine ⟨_, rfl, ax, _, dx, _, _, rfl, ea, T.cl_Amount.cls, T.no_Amount_top, rfl, _, rfl, ax, _, dx, _, _, rfl, ea, T.cl_Amount.cls, T.no_Amount_bottom, rfl, by show 2 ≤ sizeLine; decide, fun q hq => ?_⟩
      refine ⟨_, rfl, y, u, d, rfl, hy.same (same_new hq), fun p H1 S1 sq => ?_⟩
      refine ⟨.tuple [.int t, .int b], .tuple [.int u, .int d], .tup (Same.tup S1 (.inl (.inl upd_same))) (.cons (.int _) (.cons (.int _) .nil)), .tup sq (.cons (.int _) (.cons (.int _) .nil)), rfl, rfl, ?_⟩
      have e : PyData.eqv (.tuple [.int t, .int b]) (.tuple [.int u, .int d]) = decide (t = u ∧ b = d) := by
        by_cases h1 : t = u <;> by_cases h2 : b = d <;> simp [PyData.eqv, PyData.eqvAll, h1, h2]
      rw [e]
      exact k _ (Same.trans (same_new hq) S1)
    · refine ⟨rfl, _, rfl, rfl, rfl, y, rfl, .inr ⟨dd, hd, _, rfl, ?_⟩⟩
      rw [hw]
      exact iteT (k H Same.refl)
theorem sc_common_divisor : FnScope ["one", "other"] ["one", "other"] (defScope s_common_divisor) := ⟨rfl, rfl, rfl, by decide +kernel, rfl, by decide +kernel, by decide +kernel⟩
theorem ok_common_divisor (T : Txt K mg D) : FnG P w K mg base 2 D.f_common_divisor D.d_common_divisor ["one", "other"] spGcd := by
  refine Fun.okG T.F_common_divisor sc_common_divisor (fun vs H Q E h => ?_) (fun cdv A outer s H vs Q E hr h => ?_)
  · obtain ⟨a, b, rfl, ha, hb, k⟩ := h
    rfl
  · obtain ⟨a, b, rfl, ha, hb, k⟩ := h

    refine ⟨_, (pss_cons (ps_while (passes_of rfl) (pt_cmpR op_gt (pv 1) pe_int (nomark _)) (pss_one (ps_par (i := 0) (j := 1) (by rfl) sc_common_divisor.nd rfl rfl (by decide) rfl rfl (pa_cons (pv 1) (pa_cons (pe_op og_mod (pv 0) (pv 1)) pa_nil)) (by rfl))))
      (pss_one (ps_ret (pv 0)))), ?_⟩
    obtain ⟨a, rfl⟩ : ∃ n : Nat, a = n := ⟨a.toNat, by omega⟩
    obtain ⟨b, rfl⟩ : ∃ n : Nat, b = n := ⟨b.toNat, by omega⟩
    refine ⟨fun m σ H' => ∃ i j : Nat, σ = [some (.int i), some (.int j)] ∧ H' = H ∧ m = j ∧ Nat.gcd i j = Nat.gcd a b, ⟨_, a, b, rfl, rfl, rfl, rfl⟩, ?_⟩
    rintro m σ H' ⟨i, j, rfl, rfl, rfl, hg⟩
    refine ⟨_, rfl, _, _, rfl, rfl, _, rfl, ite2 (fun hc => ?_) (fun hc => ?_)⟩
    · have hj : 0 < m := by simpa using hc
      refine ⟨fun σ' H1 => ∃ i' j' : Nat, σ' = [some (.int i'), some (.int j')] ∧ H1 = H' ∧ j' < m ∧ Nat.gcd i' j' = Nat.gcd a b, ?_, ?_⟩
      · rintro σ' H1 ⟨i', j', rfl, rfl, hl, hg'⟩
        exact ⟨j', hl, i', j', rfl, rfl, rfl, hg'⟩
      · refine ⟨_, rfl, _, rfl, _, rfl, _, _, rfl, rfl, by omega, _, _, rfl, m, i % m, ?_, rfl, Nat.mod_lt _ hj, ?_⟩
        · have e : (i : Int).fmod (m : Int) = ((i % m : Nat) : Int) := by
            rw [Int.fmod_eq_emod_of_nonneg _ (by omega)]
            rfl
          show [some (V.int m), some (V.int ((i : Int).fmod (m : Int)))] = _
          rw [e]
        · rw [← hg, Nat.gcd_comm i m, Nat.gcd_rec m i, Nat.gcd_comm]
    · have hj : m = 0 := by simp at hc; omega
      subst hj
      rw [Nat.gcd_zero_right] at hg
      subst hg
      exact ⟨_, rfl, k⟩
theorem sc_Amount_init : FnScope ["self", "top", "bottom", "value", "divisor"] ["self", "top", "bottom"] (defScope s_Amount_init) := ⟨rfl, rfl, rfl, by decide +kernel, rfl, by decide +kernel, by decide +kernel⟩
theorem ok_Amount_init (T : Txt K mg D) : FnG P w K mg base 3 D.f_Amount_init D.d_Amount_init ["self", "top", "bottom"] (spAmI K D.C_Amount D.C_BadAmount D.C_NoDivisor) := by
  refine FunD.okG T.F_Amount_init sc_Amount_init (fun vs H Q E h => ?_) (fun cdv A outer s H vs Q E hr h => ?_)
  · unfold spAmI at h
    obtain ⟨a, dx, v1, v2, rfl, ha, h1, h2, hz, ky, kn, ka, kb⟩ := h
    rfl
  · unfold spAmI at h
    obtain ⟨a, dx, v1, v2, rfl, ha, h1, h2, hz, ky, kn, ka, kb⟩ := h
    have e_BadAmount : Er1 P w K mg base "BadAmount" "value" D.C_BadAmount D.f_BadAmount_init D.d_BadAmount_init := er_BadAmount T
    have G_common_divisor : FnG P w K mg base 2 D.f_common_divisor D.d_common_divisor ["one", "other"] spGcd := ok_common_divisor T
    have G_is_whole : FnG P w K mg base 2 D.f_is_whole D.d_is_whole ["value"] (spWhole K) := ok_is_whole T
    refine ⟨_, (pss_cons (ps_forO (passes_of rfl) rfl (pi_tup (pe_tup (pa_cons (pv 1) (pa_cons (pv 2) pa_nil)))) (pg_name (i := 3) sc_Amount_init.nd rfl (Or.inl rfl))
        (pss_one (ps_if (pt_not (pt_val (pc_G G_is_whole (hr.mono (by decide)) takesF T.m_is_whole_names T.F_is_whole.kp (T.F_is_whole.binds (ps := ["value"]) fun _ _ _ _ _ _ us hl => match us, hl with | [_], _ => rfl) .nil (pa_cons (pv 3) pa_nil)))) (pss_one (ps_raise rfl (takes_of (E := E) rfl rfl rfl rfl) (pmk_E1 (f := "value") e_BadAmount hr (by decide) rfl (pa_cons (pv 3) pa_nil)))) pss_nil)))
      (pss_cons (ps_if (pt_cmpR op_eqO (pv 2) pe_int (nomark _)) (pss_one (ps_raise rfl (takes_of (E := E) rfl rfl rfl rfl) (pmk_E0 PySem.F.excBase_ValueError T.xi_NoDivisor T.g_NoDivisor T.kp_NoDivisor (raises_own T.xb_NoDivisor T.xt_NoDivisor) rfl))) pss_nil)
      (pss_cons (ps_set (i := 4) sc_Amount_init.nd rfl (Or.inl rfl) (pc_G G_common_divisor (hr.mono (by decide)) takesF T.m_common_divisor T.F_common_divisor.kp (T.F_common_divisor.binds (ps := ["one", "other"]) fun _ _ _ _ _ _ us hl => match us, hl with | [_, _], _ => rfl) .nil (pa_cons (pe_callB call_abs (by rfl) T.n_abs (by decide +kernel) (pa_cons (pv 1) pa_nil)) (pa_cons (pe_callB call_abs (by rfl) T.n_abs (by decide +kernel) (pa_cons (pv 2) pa_nil)) pa_nil))))
      (C8.pss_cut (ps_if (pt_cmpR op_lt (pv 2) pe_int (nomark _)) (pss_one (ps_set (i := 4) sc_Amount_init.nd rfl (Or.inl rfl) (pe_un un_neg (pv 4)))) pss_nil)
      (pss_cons (ps_fld (pv 0) (pe_op og_fdiv (pv 1) (pv 4)) rfl)
      (pss_one (ps_fld (pv 0) (pe_op og_fdiv (pv 2) (pv 4)) rfl))))))), ?_⟩
    refine tFor_mk ⟨_, rfl, _, rfl, by show 2 ≤ sizeLine; decide, fun q hq => ⟨q, rfl, ⟨_, .inl (.inl upd_same)⟩, ?_⟩⟩
    have e1 : upd H q (.tup [v1, v2]) a = some (.ins D.C_Amount dx []) := upd_old hq ha
    have S1 : Same H (upd H q (.tup [v1, v2])) := same_new hq
    have sq : SqT K (upd H q (.tup [v1, v2])) q [v1, v2] := .inl (.inl upd_same)
    generalize upd H q (.tup [v1, v2]) = H1 at e1 S1 sq
    refine for_in (runs_tup (xs := [v1, v2])) (fun i σ H' => H' = H1 ∧ (∃ w, σ = [some (.ref a), some v1, some v2, w, none]) ∧ (0 < i → wholeV v1 = true) ∧ (1 < i → wholeV v2 = true)) ⟨rfl, ⟨_, rfl⟩, by omega, by omega⟩ (fun i σ H' h => by rw [h.1]; exact sq) ?_ ?_
    · rintro i σ H' x ⟨rfl, ⟨w, rfl⟩, w1, w2⟩ hi hx
      have hi2 : i < 2 := hi
      refine ⟨_, rfl, x, rfl, ?_, ⟨_, rfl, ?_⟩⟩
      · rcases i with _ | _ | i
        · cases hx; exact h1.same S1
        · cases hx; exact h2.same S1
        · omega
      · cases e : wholeV x with
        | true =>
          refine iteF ⟨rfl, ⟨_, rfl⟩, fun _ => ?_, fun _ => ?_⟩
          · rcases i with _ | i
            · cases hx; exact e
            · exact w1 (by omega)
          · rcases i with _ | _ | i
            · omega
            · cases hx; exact e
            · omega
        | false =>
          refine iteT ⟨_, rfl, _, rfl, fun dd hd => ?_⟩
          rcases i with _ | _ | i
          · cases hx; exact ka e _ _ (.of S1) hd
          · cases hx; exact kb (w1 (by decide)) e _ _ (.of S1) hd
          · omega
    · rintro σ H' ⟨rfl, ⟨w, rfl⟩, w1, w2⟩
      have W1 := w1 (by show 0 < 2; decide)
      have W2 := w2 (by show 1 < 2; decide)
      obtain ⟨t, rfl⟩ : ∃ t, v1 = .int t := by cases v1 <;> first | exact ⟨_, rfl⟩ | cases W1
      obtain ⟨b, rfl⟩ : ∃ t, v2 = .int t := by cases v2 <;> first | exact ⟨_, rfl⟩ | cases W2
      have hsz : Sz 7900 b := hz b rfl
      refine ⟨_, rfl, eq_mk rfl ⟨_, rfl, ite2 (fun h0 => ?_) (fun h0 => ?_)⟩⟩
      · have : b = 0 := by simpa using h0
        exact kn W1 (by rw [this]) _ (.of S1)
      · have hb : b ≠ 0 := by simpa using h0
        have eg : Int.gcd (if t < 0 then -t else t) (if b < 0 then -b else b) = Int.gcd t b := by split <;> split <;> simp
        refine ⟨_, rfl, _, rfl, _, rfl, _, rfl, _, _, rfl, by split <;> omega, by split <;> omega, ?_⟩
        rw [eg]
        have g0 := gcd_pos (t := t) hb
        have gs : Sz 7900 (Int.gcd t b : Int) := hsz.le (gcd_le hb)
        refine ⟨fun σ' H'' => ∃ d : Int, σ' = [some (.ref a), some (.int t), some (.int b), w, some (.int d)] ∧ H'' = H' ∧ d ≠ 0 ∧ Sz 7900 d ∧ nrm t b = (t.fdiv d, b.fdiv d), ?_, ?_⟩
        · refine ⟨_, rfl, _, _, rfl, rfl, _, rfl, ite2 (fun hn => ?_) (fun hn => ?_)⟩
          · have hn' : b < 0 := by simpa using hn
            exact ⟨_, rfl, _, rfl, _, rfl, rfl, by omega, gs.neg, by unfold nrm; rw [if_pos hn']⟩
          · have hn' : ¬ b < 0 := by simpa using hn
            exact ⟨_, rfl, rfl, by omega, gs, by unfold nrm; rw [if_neg hn']⟩
        · rintro σ' H'' ⟨d, rfl, rfl, hd, ds, en⟩
          refine ⟨_, rfl, _, rfl, _, _, rfl, rfl, ⟨hd, 7900, ds, by decide, by decide⟩, _, rfl, a, _, dx, _, rfl, e1, T.cl_Amount.cls, T.no_Amount_top, by decide, ?_⟩
          refine ⟨_, rfl, _, rfl, _, _, rfl, rfl, ⟨hd, 7900, ds, by decide, by decide⟩, _, rfl, a, _, dx, _, rfl, upd_same, T.cl_Amount.cls, T.no_Amount_bottom, by simp [putF], ?_⟩
          refine ky t b rfl rfl hb _ ((But.of S1).trans (But.upd.trans But.upd)) ?_
          rw [upd_same, en]
          rfl
theorem sc_Amount_add : FnScope ["self", "other", "top", "bottom"] ["self", "other"] (defScope s_Amount_add) := ⟨rfl, rfl, rfl, by decide +kernel, rfl, by decide +kernel, by decide +kernel⟩
theorem ok_Amount_add (T : Txt K mg D) : FnG P w K mg base 5 D.f_Amount_add D.d_Amount_add ["self", "other"] (spBin D.C_Amount gAdd) := by
  refine Fun.okG T.F_Amount_add sc_Amount_add (fun vs H Q E h => ?_) (fun cdv A outer s H vs Q E hr h => ?_)
  · obtain ⟨x, y, t, b, u, d, rfl, hx, hy, hb, hd, zt, zb, zu, zd, k⟩ := h
    rfl
  · obtain ⟨x, y, t, b, u, d, rfl, hx, hy, hb, hd, zt, zb, zu, zd, k⟩ := h
    have G_Amount_init : FnG P w K mg base 3 D.f_Amount_init D.d_Amount_init ["self", "top", "bottom"] (spAmI K D.C_Amount D.C_BadAmount D.C_NoDivisor) := ok_Amount_init T
    have G_halves_of : FnG P w K mg base 2 D.f_halves_of D.d_halves_of ["number"] (spHalves K D.C_Amount) := ok_halves_of T
    obtain ⟨it0, b0⟩ := bndD (ps := ["self", "top", "bottom"]) (n := 3) (ks := []) T.F_Amount_init (by decide) (fun us its ws => match us, its, ws with | [u0, u1, u2], [_], [] => [u0, u1, u2] | _, _, _ => []) (fun us its ws => match us, its, ws with | [u0, u1, u2], [_], [] => [u0, u1, u2] | _, _, _ => []) (fun _ _ _ _ _ _ _ us its ws hu hi hw => match us, its, ws, hu, hi, hw with | [_, _, _], [_], [], _, _, _ => ⟨_, rfl, rfl⟩) (fun hu hd hw r1 rd r2 => by rcases r1 with _ | ⟨u0, r1⟩; (focus (simp at hu)); rcases r1 with _ | ⟨u1, r1⟩; (focus (simp at hu)); rcases r1 with _ | ⟨u2, r1⟩; (focus (simp at hu)); rcases r1 with _ | ⟨_, _⟩; (rotate_left; (focus (simp at hu))); rcases r2 with _ | ⟨_, _⟩; (rotate_left; (focus (simp at hw))); rcases rd with _ | ⟨z0, rd⟩; (focus (simp at hd)); rcases rd with _ | ⟨_, _⟩; (rotate_left; (focus (simp at hd))); exact (.cons u0 (.cons u1 (.cons u2 .nil))))
    refine ⟨_, (pss_cons (ps_asg (pc_G G_halves_of (hr.mono (by decide)) takesF T.m_halves_of T.F_halves_of.kp (T.F_halves_of.binds (ps := ["number"]) fun _ _ _ _ _ _ us hl => match us, hl with | [_], _ => rfl) .nil (pa_cons (pv 1) pa_nil)) (pg_tup rfl (pgs_cons (pg_name (i := 2) sc_Amount_add.nd rfl (Or.inl rfl)) (pgs_cons (pg_name (i := 3) sc_Amount_add.nd rfl (Or.inl rfl)) pgs_nil))))
      (pss_one (ps_ret (pk_GW T.mk_Amount G_Amount_init (hr.mono (by decide)) (takes_of (E := E) rfl rfl rfl rfl) T.g_Amount b0 (pa_cons (pe_op op_add (pe_op og_mul (pe_fld (pv 0) rfl) (pv 3)) (pe_op og_mul (pv 2) (pe_fld (pv 0) rfl))) (pa_cons (pe_op og_mul (pe_fld (pv 0) rfl) (pv 3)) pa_nil)) pk_nil)))), ?_⟩
    obtain ⟨ax, dx, rfl, ea⟩ := hx
    have hbd : b * d ≠ 0 := by have := Int.mul_pos hb hd; omega
    refine ⟨_, rfl, y, u, d, rfl, hy, fun p H1 S1 sq => ⟨p, _, rfl, sq, rfl, _, _, rfl, _, _, rfl, rfl, ?_⟩⟩
    have ea1 := S1 _ _ ea
    refine ⟨_, rfl, ax, _, dx, _, _, rfl, ea1, T.cl_Amount.cls, T.no_Amount_top, rfl, _, rfl, _, _, rfl, rfl, ⟨60000, 3900, zt, zd, by decide⟩, _, rfl, _, rfl, ax, _, dx, _, _, rfl, ea1, T.cl_Amount.cls, T.no_Amount_bottom, rfl, _, _, rfl, rfl, ⟨60000, 3900, zu, zb, by decide⟩, _, _, rfl, rfl, ?_⟩
    exact ⟨_, rfl, ax, _, dx, _, _, rfl, ea1, T.cl_Amount.cls, T.no_Amount_bottom, rfl, _, rfl, _, _, rfl, rfl, ⟨3900, 3900, zb, zd, by decide⟩, rfl, rfl, am_mk hbd ((zb.mul zd).mono (by decide)) fun z H' S h => k _ H' (Same.trans S1 S) h⟩
theorem sc_Amount_total : FnScope ["numbers", "found", "number"] ["numbers"] (defScope s_Amount_total) := ⟨rfl, rfl, rfl, by decide +kernel, rfl, by decide +kernel, by decide +kernel⟩
theorem ok_Amount_total (T : Txt K mg D) : FnG P w K mg base 6 D.f_Amount_total D.d_Amount_total ["numbers"] (spTotal K D.C_Amount) := by
  refine Fun.okG T.F_Amount_total sc_Amount_total (fun vs H Q E h => ?_) (fun cdv A outer s H vs Q E hr h => ?_)
  · obtain ⟨a, xs, qs, rfl, hs, hl, h20, hq, k⟩ := h
    rfl
  · obtain ⟨a, xs, qs, rfl, hs, hl, h20, hq, k⟩ := h
    have G_Amount_add : FnG P w K mg base 5 D.f_Amount_add D.d_Amount_add ["self", "other"] (spBin D.C_Amount gAdd) := ok_Amount_add T
    have G_Amount_init : FnG P w K mg base 3 D.f_Amount_init D.d_Amount_init ["self", "top", "bottom"] (spAmI K D.C_Amount D.C_BadAmount D.C_NoDivisor) := ok_Amount_init T
    obtain ⟨it0, b0⟩ := bndD (ps := ["self", "top", "bottom"]) (n := 2) (ks := []) T.F_Amount_init (by decide) (fun us its ws => match us, its, ws with | [u0, u1], [z0], [] => [u0, u1, z0] | _, _, _ => []) (fun us its ws => match us, its, ws with | [u0, u1], [z0], [] => [u0, u1, z0] | _, _, _ => []) (fun _ _ _ _ _ _ _ us its ws hu hi hw => match us, its, ws, hu, hi, hw with | [_, _], [_], [], _, _, _ => ⟨_, rfl, rfl⟩) (fun hu hd hw r1 rd r2 => by rcases r1 with _ | ⟨u0, r1⟩; (focus (simp at hu)); rcases r1 with _ | ⟨u1, r1⟩; (focus (simp at hu)); rcases r1 with _ | ⟨_, _⟩; (rotate_left; (focus (simp at hu))); rcases r2 with _ | ⟨_, _⟩; (rotate_left; (focus (simp at hw))); rcases rd with _ | ⟨z0, rd⟩; (focus (simp at hd)); rcases rd with _ | ⟨_, _⟩; (rotate_left; (focus (simp at hd))); exact (.cons u0 (.cons u1 (.cons z0 .nil))))
    refine ⟨_, (pss_cons (ps_set (i := 1) sc_Amount_total.nd rfl (Or.inl rfl) (pk_GW T.mk_Amount G_Amount_init (hr.mono (by decide)) (takes_of (E := E) rfl rfl rfl rfl) T.g_Amount b0 (pa_cons pe_int pa_nil) pk_nil))
      (pss_cons (ps_forO (passes_of rfl) rfl (pi_or (pi_list (pv 0)) (pi_tup (pv 0))) (pg_name (i := 2) sc_Amount_total.nd rfl (Or.inl rfl))
        (pss_one (ps_set (i := 1) sc_Amount_total.nd rfl (Or.inl rfl) (pe_opS (os_left int_add T.oc_Amount_add T.rn_Amount_add G_Amount_add (hr.mono (by decide)) takesF (T.F_Amount_add.binds (ps := ["self", "other"]) fun _ _ _ _ _ _ us hl => match us, hl with | [_, _], _ => rfl)) (pv 1) (pv 2)))))
      (pss_one (ps_ret (pv 1))))), ?_⟩
    refine ⟨rfl, rfl, am_mk (by decide) (Sz.mono (m := 1) (by unfold Sz; decide) (by decide)) fun z0 H1 S1 a0 => ?_⟩
    have e0 : nrm 0 1 = ((0 : Rat).num, ((0 : Rat).den : Int)) := by decide
    rw [e0] at a0
    have body : ∀ J G, Runs J xs G → (∀ H', Same H H' → G H') → FoB J (gName 2) (tAsg (tOpS (rOwn D.C_Amount (spBin D.C_Amount gAdd) noW) (tVar 1) (tVar 2)) (gName 1)) { nx := fun σ H' => tRet (tVar 1) { nx := fun x H' => Q V.non H', rt := Q } σ H', rt := Q } [some (.ref a), some (.ref z0), none] H1 := by
      intro J G R hG
      refine for_in R (fun i σ H' => ∃ w z, σ = [some (.ref a), some z, w] ∧ Same H H' ∧ QA D.C_Amount H' z (rsum (qs.take i)) ∧ Zr (111 * i + 1) (rsum (qs.take i))) ⟨_, _, rfl, S1, a0, ?_⟩ (fun i σ H' h => ?_) ?_ ?_
      · exact Zr.mono (m := 1) (show Zr 1 (0 : Rat) from ⟨by unfold Sz; decide, by unfold Sz; decide⟩) (by omega)
      · obtain ⟨w, z, rfl, S, _⟩ := h
        exact hG H' S
      · rintro i σ H' x ⟨w, z, rfl, S, hz, zz⟩ hi hx
        have hi2 : i < qs.length := by omega
        obtain ⟨hn, zn⟩ := hq i x qs[i] hx (by simp [hi2])
        refine ⟨_, rfl, _, rfl, q_add hz (hn.same S) zz zn (by omega) (by decide) fun z2 H2 S2 h2 => ?_⟩
        have et : rsum (qs.take (i + 1)) = rsum (qs.take i) + qs[i] := by
          unfold rsum
          rw [List.take_succ, List.foldl_append]
          simp [hi2]
        refine ⟨_, _, rfl, Same.trans S S2, ?_, ?_⟩
        · rw [et]; exact h2
        · rw [et]; exact (zz.add zn).mono (by omega)
      · rintro σ H' ⟨w, z, rfl, S, hz, zz⟩
        rw [hl, List.take_length] at hz
        exact ⟨_, rfl, k z H' S hz⟩
    rcases hs with hs | hs
    · exact tFor_mk (.inl ⟨_, rfl, a, rfl, ⟨xs, L2.Same.seq S1 hs⟩, body _ _ runs_list fun H' S => L2.Same.seq S hs⟩)
    · exact tFor_mk (.inr ⟨_, rfl, a, rfl, ⟨xs, Same.tup S1 hs⟩, body _ _ runs_tup fun H' S => Same.tup S hs⟩)
theorem sc_Amount_bool : FnScope ["self"] ["self"] (defScope s_Amount_bool) := ⟨rfl, rfl, rfl, by decide +kernel, rfl, by decide +kernel, by decide +kernel⟩
theorem ok_Amount_bool (T : Txt K mg D) : FnG P w K mg base 2 D.f_Amount_bool D.d_Amount_bool ["self"] (spBool D.C_Amount) := by
  refine Fun.okG T.F_Amount_bool sc_Amount_bool (fun vs H Q E h => ?_) (fun cdv A outer s H vs Q E hr h => ?_)
  · obtain ⟨x, t, b, rfl, hx, k⟩ := h
    rfl
  · obtain ⟨x, t, b, rfl, hx, k⟩ := h

    refine ⟨_, (pss_one (ps_ret (pe_callTy call_bool1 (by rfl) T.n_bool (by decide +kernel) (pa_cons (pe_cmpR op_neO (pe_fld (pv 0) rfl) pe_int (nomark _)) pa_nil)))), ?_⟩
    obtain ⟨ax, dx, rfl, ea⟩ := hx
    refine ⟨_, rfl, ax, _, dx, _, _, rfl, ea, T.cl_Amount.cls, T.no_Amount_top, rfl, ne_mk rfl (.inr ⟨_, rfl, ?_⟩)⟩
    have e : (!decide (V.int t = V.int 0)) = decide (t ≠ 0) := by simp
    rw [e]
    exact k
theorem sc_Amount_is_whole : FnScope ["self"] ["self"] (defScope s_Amount_is_whole) := ⟨rfl, rfl, rfl, by decide +kernel, rfl, by decide +kernel, by decide +kernel⟩
theorem ok_Amount_is_whole (T : Txt K mg D) : FnG P w K mg base 2 D.f_Amount_is_whole D.d_Amount_is_whole ["self"] (spIsWhole D.C_Amount) := by
  refine Fun.okG T.F_Amount_is_whole sc_Amount_is_whole (fun vs H Q E h => ?_) (fun cdv A outer s H vs Q E hr h => ?_)
  · obtain ⟨x, t, b, rfl, hx, k⟩ := h
    rfl
  · obtain ⟨x, t, b, rfl, hx, k⟩ := h

    refine ⟨_, (pss_one (ps_ret (pe_cmpR op_eqO (pe_fld (pv 0) rfl) pe_int (nomark _)))), ?_⟩
    obtain ⟨ax, dx, rfl, ea⟩ := hx
    refine ⟨_, rfl, ax, _, dx, _, _, rfl, ea, T.cl_Amount.cls, T.no_Amount_bottom, rfl, eq_mk rfl ?_⟩
    have e : decide (V.int b = V.int 1) = decide (b = 1) := by simp
    rw [e]
    exact k
theorem sc_Amount_of : FnScope ["number", "top", "bottom"] ["number"] (defScope s_Amount_of) := ⟨rfl, rfl, rfl, by decide +kernel, rfl, by decide +kernel, by decide +kernel⟩
theorem ok_Amount_of (T : Txt K mg D) : FnG P w K mg base 5 D.f_Amount_of D.d_Amount_of ["number"] (spOf K D.C_Amount D.C_BadAmount) := by
  refine Fun.okG T.F_Amount_of sc_Amount_of (fun vs H Q E h => ?_) (fun cdv A outer s H vs Q E hr h => ?_)
  · obtain ⟨v, rfl, hv⟩ := h
    rfl
  · obtain ⟨v, rfl, hv⟩ := h
    have e_BadAmount : Er1 P w K mg base "BadAmount" "value" D.C_BadAmount D.f_BadAmount_init D.d_BadAmount_init := er_BadAmount T
    have G_Amount_init : FnG P w K mg base 3 D.f_Amount_init D.d_Amount_init ["self", "top", "bottom"] (spAmI K D.C_Amount D.C_BadAmount D.C_NoDivisor) := ok_Amount_init T
    have G_Amount_is_number : FnG P w K mg base 3 D.f_Amount_is_number D.d_Amount_is_number ["value"] (spIsNum K D.C_Amount) := ok_Amount_is_number T
    have G_halves_of : FnG P w K mg base 2 D.f_halves_of D.d_halves_of ["number"] (spHalves K D.C_Amount) := ok_halves_of T
    obtain ⟨it0, b0⟩ := bndD (ps := ["self", "top", "bottom"]) (n := 3) (ks := []) T.F_Amount_init (by decide) (fun us its ws => match us, its, ws with | [u0, u1, u2], [_], [] => [u0, u1, u2] | _, _, _ => []) (fun us its ws => match us, its, ws with | [u0, u1, u2], [_], [] => [u0, u1, u2] | _, _, _ => []) (fun _ _ _ _ _ _ _ us its ws hu hi hw => match us, its, ws, hu, hi, hw with | [_, _, _], [_], [], _, _, _ => ⟨_, rfl, rfl⟩) (fun hu hd hw r1 rd r2 => by rcases r1 with _ | ⟨u0, r1⟩; (focus (simp at hu)); rcases r1 with _ | ⟨u1, r1⟩; (focus (simp at hu)); rcases r1 with _ | ⟨u2, r1⟩; (focus (simp at hu)); rcases r1 with _ | ⟨_, _⟩; (rotate_left; (focus (simp at hu))); rcases r2 with _ | ⟨_, _⟩; (rotate_left; (focus (simp at hw))); rcases rd with _ | ⟨z0, rd⟩; (focus (simp at hd)); rcases rd with _ | ⟨_, _⟩; (rotate_left; (focus (simp at hd))); exact (.cons u0 (.cons u1 (.cons u2 .nil))))
    refine ⟨_, (pss_cons (ps_if (pt_not (pt_val (pst_GW (pe_glob (v := .ref D.C_Amount) rfl T.g_Amount rfl) T.rd_Amount T.sm_Amount_is_number G_Amount_is_number (hr.mono (by decide)) takesF (bndK (ps := ["value"]) (n := 1) (ks := []) T.F_Amount_is_number (fun us ws => match us, ws with | [u0], [] => [u0] | _, _ => []) (fun us ws => match us, ws with | [u0], [] => [u0] | _, _ => []) (fun _ _ _ _ _ _ us ws hu hw => match us, ws, hu, hw with | [_], [], _, _ => rfl) (fun hu hw r1 r2 => by rcases r1 with _ | ⟨u0, r1⟩; (focus (simp at hu)); rcases r1 with _ | ⟨_, _⟩; (rotate_left; (focus (simp at hu))); rcases r2 with _ | ⟨_, _⟩; (rotate_left; (focus (simp at hw))); exact (.cons u0 .nil))) (pa_cons (pv 0) pa_nil) pk_nil))) (pss_one (ps_raise rfl (takes_of (E := E) rfl rfl rfl rfl) (pmk_E1 (f := "value") e_BadAmount hr (by decide) rfl (pa_cons (pv 0) pa_nil)))) pss_nil)
      (pss_cons (ps_asg (pc_G G_halves_of (hr.mono (by decide)) takesF T.m_halves_of T.F_halves_of.kp (T.F_halves_of.binds (ps := ["number"]) fun _ _ _ _ _ _ us hl => match us, hl with | [_], _ => rfl) .nil (pa_cons (pv 0) pa_nil)) (pg_tup rfl (pgs_cons (pg_name (i := 1) sc_Amount_of.nd rfl (Or.inl rfl)) (pgs_cons (pg_name (i := 2) sc_Amount_of.nd rfl (Or.inl rfl)) pgs_nil))))
      (pss_one (ps_ret (pk_GW T.mk_Amount G_Amount_init (hr.mono (by decide)) (takes_of (E := E) rfl rfl rfl rfl) T.g_Amount b0 (pa_cons (pv 1) (pa_cons (pv 2) pa_nil)) pk_nil))))), ?_⟩
    rcases hv with ⟨t, b, hn, hb, hs, k⟩ | ⟨d, hd, hw, k⟩
    · have num : spIsNum K D.C_Amount [v] H (fun x H1 => x = .bl true ∧ H1 = H) (fun _ _ _ => False) := by
        rcases hn with ⟨rfl, _⟩ | hn
        · exact ⟨_, rfl, .inr ⟨_, .int t, rfl, rfl⟩⟩
        · exact ⟨_, rfl, .inl ⟨hn.isC, rfl, rfl⟩⟩
      have num' : ∀ Q' : VK, Q' (.bl true) H → ∀ E', spIsNum K D.C_Amount [v] H Q' E' := by
        intro Q' q E'
        rcases hn with ⟨rfl, _⟩ | hn
        · exact ⟨_, rfl, .inr ⟨_, .int t, q⟩⟩
        · exact ⟨_, rfl, .inl ⟨hn.isC, q⟩⟩
      refine ⟨rfl, _, rfl, rfl, rfl, num' _ ⟨_, rfl, iteF ?_⟩ _⟩
      refine ⟨_, rfl, v, t, b, rfl, hn, fun p H1 S1 sq => ⟨p, _, rfl, sq, rfl, _, _, rfl, _, _, rfl, rfl, ?_⟩⟩
      exact ⟨_, rfl, _, rfl, rfl, rfl, am_mk hb hs fun z H' S h => k _ H' (Same.trans S1 S) h⟩
    · refine ⟨rfl, _, rfl, rfl, rfl, v, rfl, .inr ⟨d, hd, _, rfl, ?_⟩⟩
      rw [hw]
      exact iteT ⟨_, rfl, _, rfl, fun dd h => k H dd Same.refl h⟩
theorem sc_Amount_str : FnScope ["self"] ["self"] (defScope s_Amount_str) := ⟨rfl, rfl, rfl, by decide +kernel, rfl, by decide +kernel, by decide +kernel⟩
theorem ok_Amount_str (T : Txt K mg D) : FnG P w K mg base 2 D.f_Amount_str D.d_Amount_str ["self"] (spStr D.C_Amount) := by
  refine Fun.okG T.F_Amount_str sc_Amount_str (fun vs H Q E h => ?_) (fun cdv A outer s H vs Q E hr h => ?_)
  · obtain ⟨x, t, b, rfl, hx, zt, zb, k⟩ := h
    rfl
  · obtain ⟨x, t, b, rfl, hx, zt, zb, k⟩ := h

    refine ⟨_, (pss_cons (ps_if (pt_cmpR op_eqO (pe_fld (pv 0) rfl) pe_int (nomark _)) (pss_one (ps_ret (pe_callTy call_str_int (by rfl) T.n_str (by decide +kernel) (pa_cons (pe_fld (pv 0) rfl) pa_nil)))) pss_nil)
      (pss_one (ps_ret (pe_joined (.cons (pe_fmt (pe_fld (pv 0) rfl)) (.cons pe_str (.cons (pe_fmt (pe_fld (pv 0) rfl)) .nil))))))), ?_⟩
    obtain ⟨ax, dx, rfl, ea⟩ := hx
    have lg : ∀ {i : Int}, Sz 1900 i → i.natAbs.log2 < 1920 := fun h => PySem.Flt.log2_lt_of (by decide) (h.mono (by decide))
    have sz : ∀ {i : Int}, Sz 1900 i → (Str.ofString (toString i)).length ≤ 1901 := fun h => (Sm.int (n := 1901) (k := 0) h (by decide) (by decide)).len
    refine ⟨_, rfl, ax, _, dx, _, _, rfl, ea, T.cl_Amount.cls, T.no_Amount_bottom, rfl, eq_mk rfl ⟨_, rfl, ite2 (fun h1 => ?_) (fun h1 => ?_)⟩⟩
    · have hb : b = 1 := by simpa using h1
      have e : amS t b = (Str.ofString (toString t)) := by unfold amS; rw [if_pos hb]
      refine ⟨_, rfl, ax, _, dx, _, _, rfl, ea, T.cl_Amount.cls, T.no_Amount_top, rfl, t, rfl, lg zt, ?_⟩
      rw [e] at k
      exact k
    · have hb : b ≠ 1 := by simpa using h1
      have e : amS t b = Str.empty ++ (Str.ofString (toString t)) ++ (Str.ofString "/") ++ (Str.ofString (toString b)) := by
        unfold amS
        rw [if_neg hb, str_emp]
      have n1 := sz zt
      have n2 := sz zb
      have n3 : (Str.ofString "/").length = 1 := by rfl
      have n4 : 4000 ≤ sizeLine := by decide
      refine ⟨_, rfl, ax, _, dx, _, _, rfl, ea, T.cl_Amount.cls, T.no_Amount_top, rfl, .inr ⟨t, rfl, lg zt, _, rfl, ?_, _, rfl, ?_, _, rfl, ax, _, dx, _, _, rfl, ea, T.cl_Amount.cls, T.no_Amount_bottom, rfl, .inr ⟨b, rfl, lg zb, _, rfl, ?_, ?_⟩⟩⟩
      · rw [str_emp]; omega
      · rw [str_emp, str_len]; omega
      · rw [str_emp, str_len, str_len]; omega
      · rw [e] at k
        exact k
theorem sc__law_dict : FnScope ["_law_one"] ["_law_one"] (defScope s__law_dict) := ⟨rfl, rfl, rfl, by decide +kernel, rfl, by decide +kernel, by decide +kernel⟩
theorem ok__law_dict (T : Txt K mg D) : FnG P w K mg base 2 D.f__law_dict D.d__law_dict ["_law_one"] (spDict K) := by
  refine Fun.okG T.F__law_dict sc__law_dict (fun vs H Q E h => ?_) (fun cdv A outer s H vs Q E hr h => ?_)
  · obtain ⟨z, t, b, rfl, hz, k⟩ := h
    rfl
  · obtain ⟨z, t, b, rfl, hz, k⟩ := h

    refine ⟨_, (pss_one (ps_ret (pe_callTy (call_dictP rfl) (by rfl) T.n_dict (by decide +kernel) (pa_cons (pe_lstN (pa_cons (pe_tup (pa_cons pe_str (pa_cons (pe_ix ix_tup (pv 0) pe_int (fun _ _ => rfl)) pa_nil))) (pa_cons (pe_tup (pa_cons pe_str (pa_cons (pe_ix ix_tup (pv 0) pe_int (fun _ _ => rfl)) pa_nil))) pa_nil))) pa_nil)))), ?_⟩
    obtain ⟨pz, rfl, sq⟩ := hz
    refine ⟨_, rfl, _, _, _, _, rfl, rfl, sq, rfl, by show 2 ≤ sizeLine; decide, fun q1 hq1 => ⟨_, rfl, _, _, _, _, rfl, rfl, Same.tup (same_new hq1) sq, rfl, by show 2 ≤ sizeLine; decide, fun q2 hq2 => ⟨by show 2 ≤ sizeLine; decide, fun q3 hq3 hps => ?_⟩⟩⟩
    have S3 := same_new (u := .lst [.ref q1, .ref q2]) hq3
    refine ⟨q3, [q1, q2], [(.inr (Str.ofString "top"), .int t), (.inr (Str.ofString "bottom"), .int b)], rfl, SqL.of upd_same, .cons (Same.tup S3 (Same.tup (same_new hq2) (.inl (.inl upd_same)))) (.cons (Same.tup S3 (.inl (.inl upd_same))) .nil), fun q4 hq4 => ?_⟩
    refine k _ _ (Same.trans (same_new hq1) (Same.trans (same_new hq2) (Same.trans S3 (same_new hq4)))) ⟨_, .dct (ks := [.inr (Str.ofString "top"), .inr (Str.ofString "bottom")]) (vs := [.int t, .int b]) (upd_same.trans (by rfl)) rfl (.cons (.int _) (.cons (.int _) .nil)), rfl⟩
theorem sc__law_alone_right : FnScope ["_law_pen_here", "_law_amount", "_law_one", "_law_odd", "_law_thing", "_law_copied", "_law_whole"] ["_law_pen_here", "_law_amount", "_law_one"] (defScope s__law_alone_right) := ⟨rfl, rfl, rfl, by decide +kernel, rfl, by decide +kernel, by decide +kernel⟩
theorem ok__law_alone_right (T : Txt K mg D) : FnG P w K mg base 6 D.f__law_alone_right D.d__law_alone_right ["_law_pen_here", "_law_amount", "_law_one"] (spAlone K D.C_Amount) := by
  refine Fun.okG T.F__law_alone_right sc__law_alone_right (fun vs H Q E h => ?_) (fun cdv A outer s H vs Q E hr h => ?_)
  · obtain ⟨pn, x, z, t, b, rfl, hx, hz, l, zt, zb, k⟩ := h
    rfl
  · obtain ⟨pn, x, z, t, b, rfl, hx, hz, l, zt, zb, k⟩ := h
    have G_Amount_bool : FnG P w K mg base 2 D.f_Amount_bool D.d_Amount_bool ["self"] (spBool D.C_Amount) := ok_Amount_bool T
    have G_Amount_eq : FnG P w K mg base 4 D.f_Amount_eq D.d_Amount_eq ["self", "other"] (spEq K D.C_Amount) := ok_Amount_eq T
    have G_Amount_is_number : FnG P w K mg base 3 D.f_Amount_is_number D.d_Amount_is_number ["value"] (spIsNum K D.C_Amount) := ok_Amount_is_number T
    have G_Amount_is_whole : FnG P w K mg base 2 D.f_Amount_is_whole D.d_Amount_is_whole ["self"] (spIsWhole D.C_Amount) := ok_Amount_is_whole T
    have G_Amount_of : FnG P w K mg base 5 D.f_Amount_of D.d_Amount_of ["number"] (spOf K D.C_Amount D.C_BadAmount) := ok_Amount_of T
    have G_Amount_str : FnG P w K mg base 2 D.f_Amount_str D.d_Amount_str ["self"] (spStr D.C_Amount) := ok_Amount_str T
    have G__law_dict : FnG P w K mg base 2 D.f__law_dict D.d__law_dict ["_law_one"] (spDict K) := ok__law_dict T
    refine ⟨_, (pss_cons (ps_if (pt_cmpR op_neO (pe_callB (call_repr hr) (by rfl) T.n_repr (by decide +kernel) (pa_cons (pe_lstN (pa_cons (pe_callTy (call_boolO T.sp_Amount_bool T.fn_Amount_bool G_Amount_bool (hr.mono (by decide)) (T.F_Amount_bool.binds (ps := ["self"]) fun _ _ _ _ _ _ us hl => match us, hl with | [_], _ => rfl)) (by rfl) T.n_bool (by decide +kernel) (pa_cons (pv 1) pa_nil)) (pa_cons (pc_P (pv 1) T.cl_Amount.cls T.pr_Amount_is_whole G_Amount_is_whole (hr.mono (by decide)) (T.F_Amount_is_whole.binds (ps := ["self"]) fun _ _ _ _ _ _ us hl => match us, hl with | [_], _ => rfl)) (pa_cons (pe_un (un_notO (tru_own T.sp_Amount_bool T.fn_Amount_bool G_Amount_bool (hr.mono (by decide)) (T.F_Amount_bool.binds (ps := ["self"]) fun _ _ _ _ _ _ us hl => match us, hl with | [_], _ => rfl))) (pv 1)) pa_nil)))) pa_nil)) (pe_callB (call_repr hr) (by rfl) T.n_repr (by decide +kernel) (pa_cons (pe_lstN (pa_cons (pe_cmpR op_neO (pe_ix ix_tup (pv 2) pe_int (fun _ _ => rfl)) pe_int (nomark _)) (pa_cons (pe_cmpR op_eqO (pe_ix ix_tup (pv 2) pe_int (fun _ _ => rfl)) pe_int (nomark _)) (pa_cons (pe_cmpR op_eqO (pe_ix ix_tup (pv 2) pe_int (fun _ _ => rfl)) pe_int (nomark _)) pa_nil)))) pa_nil)) (nomark _)) (pss_one (ps_ret pe_bl)) pss_nil)
      (C8.pss_cut (ps_set (i := 3) sc__law_alone_right.nd rfl (Or.inl rfl) (pe_lstN (pa_cons pe_non (pa_cons pe_bl (pa_cons pe_bl (pa_cons (pe_callTy (call_strO T.sp_Amount_str T.fn_Amount_str G_Amount_str (hr.mono (by decide)) (T.F_Amount_str.binds (ps := ["self"]) fun _ _ _ _ _ _ us hl => match us, hl with | [_], _ => rfl)) (by rfl) T.n_str (by decide +kernel) (pa_cons (pv 1) pa_nil)) (pa_cons (pe_tup (pa_cons (pe_ix ix_tup (pv 2) pe_int (fun _ _ => rfl)) (pa_cons (pe_ix ix_tup (pv 2) pe_int (fun _ _ => rfl)) pa_nil))) (pa_cons (pe_lstN (pa_cons (pe_ix ix_tup (pv 2) pe_int (fun _ _ => rfl)) pa_nil)) (pa_cons pe_dnewK (pa_cons pe_str (pa_cons (pc_G G__law_dict (hr.mono (by decide)) takesF T.m__law_dict T.F__law_dict.kp (T.F__law_dict.binds (ps := ["_law_one"]) fun _ _ _ _ _ _ us hl => match us, hl with | [_], _ => rfl) .nil (pa_cons (pv 2) pa_nil)) pa_nil)))))))))))
      (pss_cons (ps_if (pt_cmpR (op_neD hr.room.units) (pe_lcO (own := [("_law_thing", 4)]) (g := gName 4) rfl sc__law_alone_right.nd (pi_list (pv 3)) (blkOk_by (own := [("_law_thing", 4)]) (N := ["_law_pen_here", "_law_amount", "_law_one", "_law_odd", "_law_thing", "_law_copied", "_law_whole"]) (sc := defScope s__law_alone_right) (by decide +kernel)) (fun _ _ _ _ _ => (pg_name (i := 4) sc__law_alone_right.nd rfl (Or.inl rfl))) (fun _ _ _ _ _ => (pts_one (pt_cmpS (r := rEqO1 K D.C_Amount (spEq K D.C_Amount)) (os_eq T.sp_Amount_eq T.fn_Amount_eq G_Amount_eq (hr.mono (by decide)) (T.F_Amount_eq.binds (ps := ["self", "other"]) fun _ _ _ _ _ _ us hl => match us, hl with | [_, _], _ => rfl)) (pv 1) (pv 4) (nomark _)))) (fun _ _ _ _ _ => (pv 4))) (pe_lstN pa_nil) (nomark _)) (pss_one (ps_ret pe_bl)) pss_nil)
      (pss_cons (ps_if (pt_cmpR (op_neD hr.room.units) (pe_lcO (own := [("_law_thing", 4)]) (g := gName 4) (tt := tYes) rfl sc__law_alone_right.nd (pi_list (pv 3)) (blkOk_by (own := [("_law_thing", 4)]) (N := ["_law_pen_here", "_law_amount", "_law_one", "_law_odd", "_law_thing", "_law_copied", "_law_whole"]) (sc := defScope s__law_alone_right) (by decide +kernel)) (fun _ _ _ _ _ => (pg_name (i := 4) sc__law_alone_right.nd rfl (Or.inl rfl))) (fun _ _ _ _ _ => pts_nil) (fun _ _ _ _ _ => (pst_GW (pe_glob (v := .ref D.C_Amount) rfl T.g_Amount rfl) T.rd_Amount T.sm_Amount_is_number G_Amount_is_number (hr.mono (by decide)) takesF (bndK (ps := ["value"]) (n := 1) (ks := []) T.F_Amount_is_number (fun us ws => match us, ws with | [u0], [] => [u0] | _, _ => []) (fun us ws => match us, ws with | [u0], [] => [u0] | _, _ => []) (fun _ _ _ _ _ _ us ws hu hw => match us, ws, hu, hw with | [_], [], _, _ => rfl) (fun hu hw r1 r2 => by rcases r1 with _ | ⟨u0, r1⟩; (focus (simp at hu)); rcases r1 with _ | ⟨_, _⟩; (rotate_left; (focus (simp at hu))); rcases r2 with _ | ⟨_, _⟩; (rotate_left; (focus (simp at hw))); exact (.cons u0 .nil))) (pa_cons (pv 4) pa_nil) pk_nil))) (pe_op op_rep (pe_lstN (pa_cons pe_bl pa_nil)) (pe_callB call_len (by rfl) T.n_len (by decide +kernel) (pa_cons (pv 3) pa_nil))) (nomark _)) (pss_one (ps_ret pe_bl)) pss_nil)
      (pss_cons (ps_if (pt_cmpR (op_neD hr.room.units) (pe_lstN (pa_cons (pst_GW (pe_glob (v := .ref D.C_Amount) rfl T.g_Amount rfl) T.rd_Amount T.sm_Amount_is_number G_Amount_is_number (hr.mono (by decide)) takesF (bndK (ps := ["value"]) (n := 1) (ks := []) T.F_Amount_is_number (fun us ws => match us, ws with | [u0], [] => [u0] | _, _ => []) (fun us ws => match us, ws with | [u0], [] => [u0] | _, _ => []) (fun _ _ _ _ _ _ us ws hu hw => match us, ws, hu, hw with | [_], [], _, _ => rfl) (fun hu hw r1 r2 => by rcases r1 with _ | ⟨u0, r1⟩; (focus (simp at hu)); rcases r1 with _ | ⟨_, _⟩; (rotate_left; (focus (simp at hu))); rcases r2 with _ | ⟨_, _⟩; (rotate_left; (focus (simp at hw))); exact (.cons u0 .nil))) (pa_cons (pv 1) pa_nil) pk_nil) (pa_cons (pst_GW0 (pe_glob (v := .ref D.C_Amount) rfl T.g_Amount rfl) T.rd_Amount T.sm_Amount_is_number G_Amount_is_number (hr.mono (by decide)) takesF (bndK (ps := ["value"]) (n := 0) (ks := ["value"]) T.F_Amount_is_number (fun us ws => match us, ws with | [], [w0] => [w0] | _, _ => []) (fun us ws => match us, ws with | [], [w0] => [w0] | _, _ => []) (fun _ _ _ _ _ _ us ws hu hw => match us, ws, hu, hw with | [], [_], _, _ => rfl) (fun hu hw r1 r2 => by rcases r1 with _ | ⟨_, _⟩; (rotate_left; (focus (simp at hu))); rcases r2 with _ | ⟨w0, r2⟩; (focus (simp at hw)); rcases r2 with _ | ⟨_, _⟩; (rotate_left; (focus (simp at hw))); exact (.cons w0 .nil))) (pk_cons (pe_ix ix_tup (pv 2) pe_int (fun _ _ => rfl)) pk_nil)) pa_nil))) (pe_lstN (pa_cons pe_bl (pa_cons pe_bl pa_nil))) (nomark _)) (pss_one (ps_ret pe_bl)) pss_nil)
      (pss_cons (ps_par (i := 5) (j := 6) (by rfl) sc__law_alone_right.nd rfl rfl (by decide) rfl rfl (pa_cons (pst_GW (pe_glob (v := .ref D.C_Amount) rfl T.g_Amount rfl) T.rd_Amount T.sm_Amount_of G_Amount_of (hr.mono (by decide)) (takes_of (E := E) rfl rfl rfl rfl) (bndK (ps := ["number"]) (n := 1) (ks := []) T.F_Amount_of (fun us ws => match us, ws with | [u0], [] => [u0] | _, _ => []) (fun us ws => match us, ws with | [u0], [] => [u0] | _, _ => []) (fun _ _ _ _ _ _ us ws hu hw => match us, ws, hu, hw with | [_], [], _, _ => rfl) (fun hu hw r1 r2 => by rcases r1 with _ | ⟨u0, r1⟩; (focus (simp at hu)); rcases r1 with _ | ⟨_, _⟩; (rotate_left; (focus (simp at hu))); rcases r2 with _ | ⟨_, _⟩; (rotate_left; (focus (simp at hw))); exact (.cons u0 .nil))) (pa_cons (pv 1) pa_nil) pk_nil) (pa_cons (pst_GW0 (pe_glob (v := .ref D.C_Amount) rfl T.g_Amount rfl) T.rd_Amount T.sm_Amount_of G_Amount_of (hr.mono (by decide)) (takes_of (E := E) rfl rfl rfl rfl) (bndK (ps := ["number"]) (n := 0) (ks := ["number"]) T.F_Amount_of (fun us ws => match us, ws with | [], [w0] => [w0] | _, _ => []) (fun us ws => match us, ws with | [], [w0] => [w0] | _, _ => []) (fun _ _ _ _ _ _ us ws hu hw => match us, ws, hu, hw with | [], [_], _, _ => rfl) (fun hu hw r1 r2 => by rcases r1 with _ | ⟨_, _⟩; (rotate_left; (focus (simp at hu))); rcases r2 with _ | ⟨w0, r2⟩; (focus (simp at hw)); rcases r2 with _ | ⟨_, _⟩; (rotate_left; (focus (simp at hw))); exact (.cons w0 .nil))) (pk_cons (pe_ix ix_tup (pv 2) pe_int (fun _ _ => rfl)) pk_nil)) pa_nil)) (by rfl))
      (pss_cons (ps_if (pt_cmpR op_neO (pe_callB (call_repr hr) (by rfl) T.n_repr (by decide +kernel) (pa_cons (pe_lstN (pa_cons (pe_fld (pv 5) rfl) (pa_cons (pe_fld (pv 5) rfl) (pa_cons (pe_fld (pv 6) rfl) (pa_cons (pe_fld (pv 6) rfl) pa_nil))))) pa_nil)) (pe_callB (call_repr hr) (by rfl) T.n_repr (by decide +kernel) (pa_cons (pe_lstN (pa_cons (pe_ix ix_tup (pv 2) pe_int (fun _ _ => rfl)) (pa_cons (pe_ix ix_tup (pv 2) pe_int (fun _ _ => rfl)) (pa_cons (pe_ix ix_tup (pv 2) pe_int (fun _ _ => rfl)) (pa_cons pe_int pa_nil))))) pa_nil)) (nomark _)) (pss_one (ps_ret pe_bl)) pss_nil)
      (pss_one (ps_ret (pe_and (pe_cmpS (os_eq T.sp_Amount_eq T.fn_Amount_eq G_Amount_eq (hr.mono (by decide)) (T.F_Amount_eq.binds (ps := ["self", "other"]) fun _ _ _ _ _ _ us hl => match us, hl with | [_, _], _ => rfl)) (pv 5) (pv 1) (nomark _)) (pe_and (pe_callB call_is (by rfl) T.n_isinstance (by decide +kernel) (pa_cons (pv 6) (pa_cons (pe_glob (v := .ref D.C_Amount) rfl T.g_Amount rfl) pa_nil))) (pe_one (pe_callB call_is (by rfl) T.n_isinstance (by decide +kernel) (pa_cons (pv 5) (pa_cons (pe_glob (v := .ref D.C_Amount) rfl T.g_Amount rfl) pa_nil))))))))))))))), ?_⟩
    obtain ⟨pz, rfl, sq⟩ := hz
    have hb : b ≠ 0 := by have := l.1; omega
    have bm : ∀ bs : List Bool, bs.length ≤ 9 → Sm 16777216 60 (.list (bs.map .bool)) := fun bs h =>
      (Sm.list (m := 5000) (n := 5) (k := 0) (by intro e he; obtain ⟨c, _, rfl⟩ := List.mem_map.mp he; exact Sm.bool _) (by rw [List.length_map]; omega)).mono (by decide) (by decide)
    refine ⟨_, rfl, x, rfl, hx.isC, x, t, b, rfl, hx, _, rfl, ?_⟩
    obtain ⟨ax, dx, rfl, ea⟩ := hx
    have hx : Am D.C_Amount H (.ref ax) t b := ⟨ax, dx, rfl, ea⟩
    have hx0 := hx
    refine ⟨_, rfl, ax, dx, _, rfl, ea, _, t, b, rfl, hx, _, rfl, hx.isC, _, t, b, rfl, hx, _, rfl, by show 3 ≤ sizeLine; decide, fun q hq hqs => repr_of (.lst (SqL.of upd_same) hqs (.cons (.bl _) (.cons (.bl _) (.cons (.bl _) .nil)))) (bm [_, _, _] (by show 3 ≤ 9; decide)) ?_⟩
    have sq1 := Same.tup (same_new (u := .lst [.bl (decide (t ≠ 0)), .bl (decide (b = 1)), .bl (!decide (t ≠ 0))]) hq) sq
    refine ⟨_, rfl, _, _, _, _, rfl, rfl, sq1, rfl, ne_mk rfl ⟨_, rfl, _, _, _, _, rfl, rfl, sq1, rfl, eq_mk rfl ⟨_, rfl, _, _, _, _, rfl, rfl, sq1, rfl, eq_mk rfl ⟨by show 3 ≤ sizeLine; decide, fun q2 hq2 hqs2 => repr_of (.lst (SqL.of upd_same) hqs2 (.cons (.bl _) (.cons (.bl _) (.cons (.bl _) .nil)))) (bm [_, _, _] (by show 3 ≤ 9; decide)) ?_⟩⟩⟩⟩
    have e1 : decide (t ≠ 0) = !decide (V.int t = V.int 0) := by simp
    have e2 : decide (b = 1) = decide (V.int b = V.int 1) := by simp
    have e3 : (!!decide (V.int t = V.int 0)) = decide (V.int t = V.int 0) := by simp
    refine ne_same (by rw [e1, e2, e3]) ⟨_, rfl, iteF ?_⟩
    generalize hG : upd (upd H q _) q2 _ = H1
    have S0 : Same H H1 := by rw [← hG]; exact Same.trans (same_new hq) (same_new hq2)
    refine ⟨fun σ' H' => ∃ po xs, σ' = [some pn, some (.ref ax), some (.ref pz), some (.ref po), none, none, none] ∧ Same H H' ∧ SqL K H' po xs ∧ xs.length = 9 ∧ ∀ v ∈ xs, ∃ d, Rd K H' v d ∧ wholeV v = false, ?_, ?_⟩
    · refine ⟨_, rfl, _, rfl, (hx.same S0).isC, _, t, b, rfl, hx.same S0, zt.mono (by decide), zb.mono (by decide), ⟨_, rfl⟩, ?_⟩
      have sqh := Same.tup S0 sq
      refine ⟨_, rfl, _, _, _, _, rfl, rfl, sqh, rfl, _, rfl, _, _, _, _, rfl, rfl, sqh, rfl, by show 2 ≤ sizeLine; decide, fun q3 hq3 => ?_⟩
      have m3 : Rd K (upd H1 q3 (.tup [.int t, .int b])) (.ref q3) (.tuple [.int t, .int b]) := .tup (.inl (.inl upd_same)) (.cons (.int _) (.cons (.int _) .nil))
      have S03 := Same.trans S0 (same_new (u := .tup [.int t, .int b]) hq3)
      revert m3 S03
      generalize upd H1 q3 _ = H3
      intro m3 S03
      refine ⟨_, rfl, _, _, _, _, rfl, rfl, Same.tup S03 sq, rfl, by show 1 ≤ sizeLine; decide, fun q4 hq4 hqs4 => ?_⟩
      have m4 : Rd K (upd H3 q4 (.lst [.int t])) (.ref q4) (.list [.int t]) := .lst (SqL.of upd_same) hqs4 (.cons (.int _) .nil)
      have S4 := same_new (u := .lst [.int t]) hq4
      have m34 := m3.same S4
      have S04 := Same.trans S03 S4
      revert m4 m34 S04
      generalize upd H3 q4 _ = H4
      intro m4 m34 S04
      intro q5 hq5
      have m5 : Rd K (upd H4 q5 (.dK [])) (.ref q5) (.dict []) := .dct (ks := []) (vs := []) upd_same rfl .nil
      have S5 := same_new (u := .dK []) hq5
      have m35 := m34.same S5
      have m45 := m4.same S5
      have S05 := Same.trans S04 S5
      revert m5 m35 m45 S05
      generalize upd H4 q5 _ = H5
      intro m5 m35 m45 S05
      refine ⟨_, rfl, .ref pz, t, b, rfl, ⟨pz, rfl, Same.tup S05 sq⟩, fun z6 H6 S6 h6 => ⟨by show 9 ≤ sizeLine; decide, fun po hpo _ => ?_⟩⟩
      refine ⟨po, _, rfl, Same.trans S05 (Same.trans S6 (same_new hpo)), SqL.of upd_same, rfl, ?_⟩
      obtain ⟨d6, r6, w6⟩ := h6
      have S7 := same_new (u := .lst [.non, .bl true, .bl false, .str (amS t b), .ref q3, .ref q4, .ref q5, .str (Str.ofString ""), z6]) hpo
      intro v hv
      simp only [List.mem_cons, List.mem_nil_iff, or_false] at hv
      rcases hv with rfl | rfl | rfl | rfl | rfl | rfl | rfl | rfl | rfl
      · exact ⟨_, .non, rfl⟩
      · exact ⟨_, .bl _, rfl⟩
      · exact ⟨_, .bl _, rfl⟩
      · exact ⟨_, .str _, rfl⟩
      · exact ⟨_, m35.same (Same.trans S6 S7), rfl⟩
      · exact ⟨_, m45.same (Same.trans S6 S7), rfl⟩
      · exact ⟨_, m5.same (Same.trans S6 S7), rfl⟩
      · exact ⟨_, .str _, rfl⟩
      · exact ⟨_, r6.same S7, w6⟩
    · rintro σ' H2 ⟨po, xs, rfl, S2, so, hl, hv⟩
      have runs := runs_list (K := K) (a := po) (xs := xs)
      refine tLc_mk ⟨_, rfl, _, rfl, ⟨_, so⟩, fun dl hD => lcf_in runs (by rw [hl]; decide) (fun k acc H' => H' dl = some (.lst acc) ∧ acc = [] ∧ Same H2 H') ⟨upd_same, rfl, same_new hD⟩ (fun _ _ _ h => ⟨h.1, L2.Same.seq h.2.2 so⟩) ?_ ?_⟩
      · rintro i acc H3 v ⟨ha, rfl, S3⟩ hi hk hx
        obtain ⟨d, r, wv⟩ := hv v (List.mem_of_getElem? hx)
        have S23 := Same.trans S2 S3
        refine ⟨rfl, _, rfl, _, rfl, (hx0.same S23).isC, .inr ⟨d, r.same S3⟩, _, v, t, b, rfl, hx0.same S23, .inr ⟨d, r.same S3, wv, fun H4 S4 => ⟨_, rfl, iteF ⟨[], by omega, hk, S4 _ _ ha, rfl, Same.trans S3 S4⟩⟩⟩⟩
      · rintro acc H3 ⟨ha, rfl, S3⟩ -
        refine ⟨by show 0 ≤ sizeLine; decide, fun p2 hp2 _ => ⟨.list [], .list [], .lst (SqL.of ((same_new hp2) _ _ ha)) .nil, .lst (SqL.of upd_same) .nil, rfl, rfl, ⟨_, rfl, iteF ?_⟩⟩⟩
        have S4 := Same.trans S3 (same_new (u := .lst []) hp2)
        revert S4
        generalize upd H3 p2 _ = H4
        intro S4
        have so4 := L2.Same.seq S4 so
        refine tLc_mk ⟨_, rfl, _, rfl, ⟨_, so4⟩, fun dl hD => lc_in runs (by rw [hl]; decide) (fun k acc H' => H' dl = some (.lst acc) ∧ acc = List.replicate k (.bl false) ∧ Same H4 H') ⟨upd_same, rfl, same_new hD⟩ (fun _ _ _ h => ⟨h.1, L2.Same.seq h.2.2 so4⟩) ?_ ?_⟩
        · rintro i acc H5 v ⟨ha, he, S5⟩ hi hk hx
          obtain ⟨d, r, wv⟩ := hv v (List.mem_of_getElem? hx)
          refine ⟨rfl, _, rfl, rfl, rfl, v, rfl, .inr ⟨d, r.same (Same.trans S4 S5), ?_⟩⟩
          rw [wv]
          exact LcNx.mk ha hi hk (by rw [hl]; decide) ⟨upd_same, by rw [he, List.replicate_succ'], Same.upd S5 hD⟩
        · rintro acc H5 ⟨ha, he, S5⟩ -
          rw [hl] at he
          subst he
          have nine : ∀ H' : Hp, DpAll K H' (List.replicate 9 (.bl false)) (List.replicate 9 (.bool false)) := fun _ => .cons (.bl _) (.cons (.bl _) (.cons (.bl _) (.cons (.bl _) (.cons (.bl _) (.cons (.bl _) (.cons (.bl _) (.cons (.bl _) (.cons (.bl _) .nil))))))))
          have ee : (!PyData.eqv (.list (List.replicate 9 (.bool false))) (.list (List.replicate 9 (.bool false)))) = false := by decide
          have so5 := L2.Same.seq S5 so4
          refine ⟨by show 1 ≤ sizeLine; decide, fun p3 hp3 _ => ⟨_, rfl, _, 9, rfl, .inl ⟨xs, L2.Same.seq (same_new hp3) so5, hl.symm⟩, p3, 9, [.bl false], rfl, rfl, upd_same, by decide, by decide, by decide, fun p4 hp4 => ⟨.list (List.replicate 9 (.bool false)), .list (List.replicate 9 (.bool false)), .lst (SqL.of ((same_new hp4) _ _ ((same_new hp3) _ _ ha))) (nine _), .lst (SqL.of upd_same) (nine _), by decide, by decide, ?_⟩⟩⟩
          rw [ee]
          refine ⟨_, rfl, iteF ?_⟩
          generalize hG : upd (upd H5 p3 _) p4 _ = H6
          have S6 : Same H2 H6 := by rw [← hG]; exact Same.trans S4 (Same.trans S5 (Same.trans (same_new hp3) (same_new hp4)))
          have S06 := Same.trans S2 S6
          have sq6 := Same.tup S06 sq
          have hx6 := hx0.same S06
          refine ⟨rfl, _, rfl, rfl, rfl, _, rfl, .inl ⟨hx6.isC, rfl, _, rfl, _, _, _, _, rfl, rfl, sq6, rfl, rfl, rfl, _, rfl, .inr ⟨_, .int _, by show 2 ≤ sizeLine; decide, fun p5 hp5 _ => ⟨by show 2 ≤ sizeLine; decide, fun p6 hp6 _ => ⟨.list [.bool true, .bool true], .list [.bool true, .bool true], .lst (SqL.of ((same_new hp6) _ _ upd_same)) (.cons (.bl _) (.cons (.bl _) .nil)), .lst (SqL.of upd_same) (.cons (.bl _) (.cons (.bl _) .nil)), by decide, by decide, ⟨_, rfl, iteF ?_⟩⟩⟩⟩⟩⟩
          generalize hG2 : upd (upd H6 p5 _) p6 _ = H7
          have S7 : Same H H7 := by rw [← hG2]; exact Same.trans S06 (Same.trans (same_new hp5) (same_new hp6))
          refine ⟨rfl, _, rfl, rfl, rfl, _, rfl, .inl ⟨t, b, .inr (hx0.same S7), hb, zb.mono (by decide), fun z8 H8 S8 h8 => ?_⟩⟩
          rw [low_nrm l] at h8
          have S08 := Same.trans S7 S8
          refine ⟨rfl, _, rfl, _, _, _, _, rfl, rfl, Same.tup S08 sq, rfl, rfl, rfl, _, rfl, .inl ⟨t, 1, .inl ⟨rfl, rfl⟩, by decide, Sz.mono (m := 1) (by unfold Sz; decide) (by decide), fun z9 H9 S9 h9 => ⟨_, _, rfl, ?_⟩⟩⟩
          rw [low_nrm ⟨by decide, by simp⟩] at h9
          have S09 := Same.trans S08 S9
          obtain ⟨a8, d8, rfl, e8⟩ := h8.same S9
          obtain ⟨a9, d9, rfl, e9⟩ := h9
          have z1 : Sz 110 (1 : Int) := Sz.mono (m := 1) (by unfold Sz; decide) (by decide)
          have sm : Sm 16777216 60 (.list [.int t, .int b, .int t, .int 1]) := (Sm.list (m := 5000) (n := 111) (k := 0) (by intro e he; simp at he; rcases he with rfl | rfl | rfl | rfl <;> first | exact Sm.int zt (by decide) (by decide) | exact Sm.int zb (by decide) (by decide) | exact Sm.int z1 (by decide) (by decide)) (by simp)).mono (by decide) (by decide)
          refine ⟨_, rfl, a8, _, d8, _, _, rfl, e8, T.cl_Amount.cls, T.no_Amount_top, rfl, _, rfl, a8, _, d8, _, _, rfl, e8, T.cl_Amount.cls, T.no_Amount_bottom, rfl, _, rfl, a9, _, d9, _, _, rfl, e9, T.cl_Amount.cls, T.no_Amount_top, rfl, _, rfl, a9, _, d9, _, _, rfl, e9, T.cl_Amount.cls, T.no_Amount_bottom, rfl, by show 4 ≤ sizeLine; decide, fun p5 hp5 hps5 => repr_of (.lst (SqL.of upd_same) hps5 (.cons (.int _) (.cons (.int _) (.cons (.int _) (.cons (.int _) .nil))))) sm ?_⟩
          have sq10 := Same.tup (Same.trans S09 (same_new (u := .lst [.int t, .int b, .int t, .int 1]) hp5)) sq
          refine ⟨_, rfl, _, _, _, _, rfl, rfl, sq10, rfl, _, rfl, _, _, _, _, rfl, rfl, sq10, rfl, _, rfl, _, _, _, _, rfl, rfl, sq10, rfl, by show 4 ≤ sizeLine; decide, fun p6 hp6 hps6 => repr_of (.lst (SqL.of upd_same) hps6 (.cons (.int _) (.cons (.int _) (.cons (.int _) (.cons (.int _) .nil))))) sm (ne_self ⟨_, rfl, iteF ?_⟩)⟩
          have S10 := Same.trans (same_new (u := .lst [.int t, .int b, .int t, .int 1]) hp5) (same_new (u := .lst [.int t, .int b, .int t, .int 1]) hp6)
          revert S10
          generalize upd (upd H9 p5 _) p6 _ = H10
          intro S10
          have hx10 := hx0.same (Same.trans S09 S10)
          have h8 : Am D.C_Amount H10 (.ref a8) t b := ⟨a8, d8, rfl, S10 _ _ e8⟩
          have h9 : Am D.C_Amount H10 (.ref a9) t 1 := ⟨a9, d9, rfl, S10 _ _ e9⟩
          refine ⟨_, rfl, _, rfl, h8.isC, .inl hx10.isC, _, _, t, b, rfl, h8, .inl ⟨t, b, .inr hx10, fun H11 S11 => ⟨_, rfl, ite2 (fun _ => ?_) (fun z => absurd (by simp) z)⟩⟩⟩
          refine ⟨_, rfl, is_own T.cl_Amount (h9.same S11).isC ⟨_, rfl, iteT ?_⟩⟩
          exact ⟨_, rfl, is_own T.cl_Amount (h8.same S11).isC (k _ (Same.trans S09 (Same.trans S10 S11)))⟩
theorem sc__law_draw : FnScope ["_law_pen_here", "_law_many", "_law_digit", "_law_at", "_law_cell", "_law_great", "_law_mixed"] ["_law_pen_here", "_law_many"] (defScope s__law_draw) := ⟨rfl, rfl, rfl, by decide +kernel, rfl, by decide +kernel, by decide +kernel⟩
theorem ok__law_draw (T : Txt K mg D) : FnG P w K mg base 2 D.f__law_draw D.d__law_draw ["_law_pen_here", "_law_many"] spDraw := by
  refine Fun.okG T.F__law_draw sc__law_draw (fun vs H Q E h => ?_) (fun cdv A outer s H vs Q E hr h => ?_)
  · obtain ⟨p, c, m, n, rfl, hP, hn, h0, hm, k⟩ := h
    rfl
  · obtain ⟨p, c, m, n, rfl, hP, hn, h0, hm, k⟩ := h

    refine ⟨_, (pss_cons (ps_if (pt_cmpR op_gt (pe_ix ix_list (pv 0) pe_int (fun _ _ => rfl)) pe_int (nomark _)) (pss_cons (ps_set (i := 2) sc__law_draw.nd rfl (Or.inl rfl) (pe_op og_mod (pe_callTy call_int1 (by rfl) T.n_int (by decide +kernel) (pa_cons (pe_ix ix_list (pv 0) pe_int (fun _ _ => rfl)) pa_nil)) (pv 1)))
      (pss_cons (ps_asg (pe_op og_fdiv (pe_callTy call_int1 (by rfl) T.n_int (by decide +kernel) (pa_cons (pe_ix ix_list (pv 0) pe_int (fun _ _ => rfl)) pa_nil)) (pv 1)) (pg_sub (pv 0) pe_int set_list))
      (pss_one (ps_ret (pv 2))))) pss_nil)
      (pss_cons (ps_set (i := 3) sc__law_draw.nd rfl (Or.inl rfl) (pe_ix ix_list (pv 0) pe_int (fun _ _ => rfl)))
      (C8.pss_cut (ps_asg (pe_op op_add (pv 3) pe_int) (pg_sub (pv 0) pe_int set_list))
      (pss_cons (ps_set (i := 4) sc__law_draw.nd rfl (Or.inl rfl) (pe_op op_add (pe_op og_mul pe_int (pv 3)) pe_int))
      (C8.pss_cut (ps_if (pt_cmpR (op_neD hr.room.units) (pe_ix ix_list (pv 0) pe_int (fun _ _ => rfl)) (pe_lstN pa_nil) (nomark _)) (pss_one (ps_set (i := 4) sc__law_draw.nd rfl (Or.inl rfl) (pe_ix ix_list (pe_ix ix_list (pv 0) pe_int (fun _ _ => rfl)) (pe_op og_mod (pe_callTy call_int1 (by rfl) T.n_int (by decide +kernel) (pa_cons (pv 3) pa_nil)) (pe_callB call_len (by rfl) T.n_len (by decide +kernel) (pa_cons (pe_ix ix_list (pv 0) pe_int (fun _ _ => rfl)) pa_nil))) (fun _ _ => rfl)))) pss_nil)
      (C8.pss_cut (ps_if (PW.pt (pw_and (pt_cmpR op_lt (pv 3) (pe_callB call_len (by rfl) T.n_len (by decide +kernel) (pa_cons (pe_ix ix_list (pv 0) pe_int (fun _ _ => rfl)) pa_nil)) (nomark _)) (pw_and1 (pt_cmpR op_ge (pe_callB call_abs (by rfl) T.n_abs (by decide +kernel) (pa_cons (pv 4) pa_nil)) (pe_op og_pow pe_int pe_int) (nomark _))))) (pss_cons (ps_set (i := 5) sc__law_draw.nd rfl (Or.inl rfl) (pe_op op_add (pe_op og_mul pe_int (pe_op op_sub (pe_callB call_abs (by rfl) T.n_abs (by decide +kernel) (pa_cons (pv 4) pa_nil)) (pe_op og_pow pe_int pe_int))) (pe_callTy call_int1 (by rfl) T.n_int (by decide +kernel) (pa_cons (pe_cmpR op_lt (pv 4) pe_int (nomark _)) pa_nil))))
      (pss_cons (ps_asg (pe_op og_fdiv (pe_callTy call_int1 (by rfl) T.n_int (by decide +kernel) (pa_cons (pv 5) pa_nil)) (pv 1)) (pg_sub (pv 0) pe_int set_list))
      (pss_one (ps_ret (pe_op og_mod (pe_callTy call_int1 (by rfl) T.n_int (by decide +kernel) (pa_cons (pv 5) pa_nil)) (pv 1)))))) pss_nil)
      (C8.pss_cut (ps_set (i := 6) sc__law_draw.nd rfl (Or.inl rfl) (pe_op og_mod (pe_callTy call_int1 (by rfl) T.n_int (by decide +kernel) (pa_cons (pe_op og_pow (pe_op op_add (pe_op op_add (pe_op og_mod (pe_callTy call_int1 (by rfl) T.n_int (by decide +kernel) (pa_cons (pv 4) pa_nil)) pe_int) (pe_op og_mul pe_int (pv 3))) pe_int) pe_int) pa_nil)) pe_int))
      (C8.pss_cut (ps_set (i := 6) sc__law_draw.nd rfl (Or.inl rfl) (pe_op og_mod (pe_callTy call_int1 (by rfl) T.n_int (by decide +kernel) (pa_cons (pe_op og_pow (pe_op op_add (pe_op op_add (pe_op og_mul (pv 6) (pe_op op_add (pe_op og_mul pe_int (pv 3)) pe_int)) (pe_op og_mul (pe_op og_mul pe_int (pv 3)) (pv 3))) pe_int) pe_int) pa_nil)) pe_int))
      (pss_one (ps_ret (pe_op og_mod (pe_callTy call_int1 (by rfl) T.n_int (by decide +kernel) (pa_cons (pe_op og_fdiv (pv 6) pe_int) pa_nil)) (pv 1)))))))))))), ?_⟩
    obtain ⟨ns, b, g, h1, h2, hcp, hb0, hbn, hg0, hgs, hns, hl⟩ := hP.ex
    have mne : m ≠ 0 := by omega
    have hdv : CDivG 0 m := ⟨mne, 4000, hm, by decide, by decide⟩
    refine ⟨_, rfl, _, _, _, _, rfl, rfl, SqL.of h1, rfl, _, _, rfl, rfl, _, rfl, ite2 (fun hg => ?_) (fun hg => ?_)⟩
    · -- a digit of a great cell
      refine ⟨_, rfl, _, _, _, _, rfl, rfl, SqL.of h1, rfl, .inl ⟨_, rfl, _, rfl, _, _, rfl, rfl, mne, ?_⟩⟩
      refine ⟨_, rfl, _, _, _, _, rfl, rfl, SqL.of h1, rfl, .inl ⟨_, rfl, _, rfl, _, _, rfl, rfl, hdv, ?_⟩⟩
      refine ⟨_, rfl, _, _, _, _, rfl, rfl, h1, rfl, ?_⟩
      refine ⟨_, rfl, ?_⟩
      refine k _ _ (Int.fmod_nonneg_of_pos _ h0) (Int.fmod_lt_of_pos _ h0) ⟨ns, b, g.fdiv m, upd_same, by rw [upd_ne hcp]; exact h2, hcp, hb0, by omega, ?_, hgs.fdiv m, hns, hl⟩ But.upd
      exact Int.fdiv_nonneg hg0 (by omega)
    · refine ⟨_, rfl, _, _, _, _, rfl, rfl, SqL.of h1, rfl, fun σ' H' => σ' = [some (.ref p), some (.int m), none, some (.int b), none, none, none] ∧ H' p = some (.lst [V.ref c, V.int (b + 1), V.int g]) ∧ H' c = some (.lst (ns.map V.int)) ∧ But p H H',
        ⟨_, rfl, _, _, rfl, rfl, _, rfl, _, _, _, 1, rfl, rfl, h1, rfl, rfl, upd_same, by rw [upd_ne hcp]; exact h2, But.upd⟩, ?_⟩
      rintro σ' H1 ⟨rfl, h3, h4, B1⟩
      refine ⟨_, rfl, _, _, rfl, rfl, ⟨64, 64, by walk_at "sz", by walk_at "sz", by decide⟩, _, _, rfl, rfl, ?_⟩
      -- the cells are there or not
      refine ⟨fun σ' H' => ∃ lone, σ' = [some (.ref p), some (.int m), none, some (.int b), some (.int lone), none, none] ∧ Sz 1048576 lone ∧ H' p = some (.lst [V.ref c, V.int (b + 1), V.int g]) ∧ H' c = some (.lst (ns.map V.int)) ∧ But p H H', ?_, ?_⟩
      · refine ⟨_, rfl, _, _, _, _, rfl, rfl, SqL.of h3, rfl, by show 0 ≤ sizeLine; decide, fun q hq hqs => ?_⟩
        have h5 : upd H1 q (.lst []) p = some (.lst [V.ref c, V.int (b + 1), V.int g]) := upd_old hq h3
        have h6 : upd H1 q (.lst []) c = some (.lst (ns.map V.int)) := upd_old hq h4
        have B2 : But p H (upd H1 q (.lst [])) := B1.same (same_new hq)
        have hq2 : upd H1 q (.lst []) q = some (.lst []) := upd_same
        generalize upd H1 q (.lst []) = H2 at h5 h6 B2 hq2 ⊢
        refine ⟨_, _, .lst (SqL.of h6) (dp_ints ns), .lst (SqL.of hq2) .nil, shaped_ints ns, rfl, _, rfl, ?_⟩
        rw [eqv_nil]
        by_cases he : ns = []
        · subst he
          refine iteF ⟨_, rfl, ?_, h5, h6, B2⟩
          exact Sz.mono (m := 64) (by walk_at "sz") (by decide)
        · have hl0 : 0 < ns.length := List.length_pos_iff.mpr he
          rw [show (!ns.isEmpty) = true by simp [he]]
          have hix : b.fmod (ns.length : Int) = ((b.toNat % ns.length : Nat) : Int) := by
            obtain ⟨b', rfl⟩ : ∃ b' : Nat, b = b' := ⟨b.toNat, by omega⟩
            rw [Int.fmod_eq_emod_of_nonneg _ (by omega)]
            rfl
          have hlt : b.toNat % ns.length < ns.length := Nat.mod_lt _ hl0
          refine iteT ⟨_, rfl, _, _, _, _, rfl, rfl, SqL.of h5, rfl, _, rfl, .inl ⟨_, rfl, _, rfl, _, _, _, _, rfl, rfl, SqL.of h5, rfl, _, _, rfl, .inl ⟨_, SqL.of h6, rfl⟩, _, _, rfl, rfl, by simp; omega, _, _, _, _, rfl, rfl, SqL.of h6, (by rw [List.length_map, hix]; exact atI_nat (v := V.int (ns[b.toNat % ns.length]'hlt)) (by simp [hlt])), ?_⟩⟩
          exact ⟨_, rfl, hns _ (List.getElem_mem _), h5, h6, B2⟩
      · rintro σ' H2 ⟨lone, rfl, hlone, h5, h6, B2⟩
        have ha : Sz 1048576 (if lone < 0 then -lone else lone) := hlone.abs
        have h10 : CPowG 10 18 := ⟨by decide, 4, by unfold Sz; decide, by decide⟩
        have e10 : (10 : Int) ^ (18 : Int).toNat = 1000000000000000000 := by decide
        refine ⟨fun σ' H' => σ' = [some (.ref p), some (.int m), none, some (.int b), some (.int lone), none, none] ∧ H' = H2, ?_, ?_⟩
        · refine ⟨_, rfl, _, rfl, _, _, _, _, rfl, rfl, SqL.of h5, rfl, _, _, rfl, .inl ⟨_, SqL.of h6, rfl⟩, _, _, rfl, rfl, _, rfl, ite2 (fun hlt => ?_) (fun hlt => iteF ⟨rfl, rfl⟩)⟩
          refine ⟨_, rfl, _, rfl, _, _, rfl, rfl, h10, _, _, rfl, rfl, _, rfl, ite2 (fun hge => ?_) (fun hge => ⟨rfl, rfl⟩)⟩
          rw [e10] at hge
          have hge' : (1000000000000000000 : Int) ≤ if lone < 0 then -lone else lone := of_decide_eq_true hge
          -- a great cell
          have hG : Sz 1048600 (2 * ((if lone < 0 then -lone else lone) - (10 : Int) ^ (18 : Int).toNat) + (if decide (lone < 0) = true then 1 else 0)) := by
            rw [e10]
            refine Sz.mono (Sz.add (m := 1048579) (n := 2) (Sz.mul (m := 2) (n := 1048577) (by unfold Sz; decide) ((ha.sub (n := 64) (by walk_at "sz")).mono (by decide))) ?_) (by decide)
            unfold Sz; split <;> decide
          have hG0 : 0 ≤ 2 * ((if lone < 0 then -lone else lone) - (10 : Int) ^ (18 : Int).toNat) + (if decide (lone < 0) = true then 1 else 0) := by
            rw [e10]
            split <;> split <;> simp_all <;> omega
          refine ⟨_, rfl, _, rfl, _, _, rfl, rfl, h10, _, _, rfl, rfl, _, _, rfl, rfl, ⟨2, 1048577, by unfold Sz; decide, (by rw [e10]; exact (ha.sub (n := 64) (by walk_at "sz")).mono (by decide)), by decide⟩, _, rfl, _, _, rfl, rfl, .inr ⟨_, rfl, _, _, rfl, rfl, ?_⟩⟩
          refine ⟨_, rfl, .inl ⟨_, rfl, _, rfl, _, _, rfl, rfl, hdv, _, rfl, _, _, _, 2, rfl, rfl, h5, rfl, _, rfl, .inl ⟨_, rfl, _, rfl, _, _, rfl, rfl, mne, ?_⟩⟩⟩
          refine k _ _ (Int.fmod_nonneg_of_pos _ h0) (Int.fmod_lt_of_pos _ h0) ⟨ns, b + 1, _, upd_same, by rw [upd_ne hcp]; exact h6, hcp, by omega, by omega, Int.fdiv_nonneg hG0 (by omega), hG.fdiv m, hns, hl⟩ (B2.trans But.upd)
        · rintro σ' H3 ⟨rfl, rfl⟩
          have small : ∀ (lone c1 : Int), 0 < c1 → c1 < 4294967296 → 0 ≤ lone.fmod c1 ∧ lone.fmod c1 < 4294967296 := fun lone c1 h1 h2 => ⟨Int.fmod_nonneg_of_pos _ h1, Int.lt_trans (Int.fmod_lt_of_pos _ h1) h2⟩
          refine ⟨fun σ' H' => ∃ x : Int, σ' = [some (.ref p), some (.int m), none, some (.int b), some (.int lone), none, some (.int x)] ∧ H' = H3 ∧ 0 ≤ x ∧ x < 4294967296, ?_, ?_⟩
          · refine ⟨_, rfl, .inl ⟨_, rfl, _, _, rfl, rfl, by walk_at "nz", _, rfl, _, _, rfl, rfl, ⟨64, 64, by walk_at "sz", by walk_at "sz", by decide⟩, _, _, rfl, rfl, _, _, rfl, rfl, ?_⟩⟩
            refine ⟨_, _, rfl, rfl, ⟨by decide, _, by walk_at "sz", by decide⟩, .inl ⟨_, rfl, _, _, rfl, rfl, by walk_at "nz", ?_⟩⟩
            exact ⟨_, rfl, rfl, small _ _ (by decide) (by decide)⟩
          · rintro σ' H4 ⟨x, rfl, rfl, hx0, hx1⟩
            refine ⟨fun σ' H' => ∃ x : Int, σ' = [some (.ref p), some (.int m), none, some (.int b), some (.int lone), none, some (.int x)] ∧ H' = H4 ∧ 0 ≤ x ∧ x < 4294967296, ?_, ?_⟩
            · refine ⟨_, rfl, _, rfl, _, _, rfl, rfl, ⟨64, 64, by walk_at "sz", by walk_at "sz", by decide⟩, _, _, rfl, rfl, _, _, rfl, rfl, ⟨64, 64, by walk_at "sz", by walk_at "sz", by decide⟩, ?_⟩
              refine ⟨_, rfl, _, _, rfl, rfl, ⟨64, 64, by walk_at "sz", by walk_at "sz", by decide⟩, _, rfl, _, _, rfl, rfl, ⟨_, 64, by walk_at "sz", by walk_at "sz", by decide⟩, _, _, rfl, rfl, _, _, rfl, rfl, ?_⟩
              refine ⟨_, _, rfl, rfl, ⟨by decide, _, by walk_at "sz", by decide⟩, .inl ⟨_, rfl, _, _, rfl, rfl, by walk_at "nz", ?_⟩⟩
              exact ⟨_, rfl, rfl, small _ _ (by decide) (by decide)⟩
            · rintro σ' H5 ⟨x, rfl, rfl, hx0, hx1⟩
              refine ⟨_, rfl, _, _, rfl, rfl, ⟨by walk_at "nz", 64, by walk_at "sz", by decide, by decide⟩, .inl ⟨_, rfl, _, rfl, _, _, rfl, rfl, mne, ?_⟩⟩
              exact k _ _ (Int.fmod_nonneg_of_pos _ h0) (Int.fmod_lt_of_pos _ h0) ⟨ns, b + 1, g, h5, h6, hcp, by omega, by omega, hg0, hgs, hns, hl⟩ B2
theorem sc__law_lowest : FnScope ["_law_top", "_law_bottom", "_law_one", "_law_other", "_law_sign"] ["_law_top", "_law_bottom"] (defScope s__law_lowest) := ⟨rfl, rfl, rfl, by decide +kernel, rfl, by decide +kernel, by decide +kernel⟩
theorem ok__law_lowest (T : Txt K mg D) : FnG P w K mg base 2 D.f__law_lowest D.d__law_lowest ["_law_top", "_law_bottom"] (spLow K) := by
  refine Fun.okG T.F__law_lowest sc__law_lowest (fun vs H Q E h => ?_) (fun cdv A outer s H vs Q E hr h => ?_)
  · obtain ⟨u, l, rfl, hl, zu, zl, k⟩ := h
    rfl
  · obtain ⟨u, l, rfl, hl, zu, zl, k⟩ := h

    refine ⟨_, (pss_cons (ps_par (i := 2) (j := 3) (by rfl) sc__law_lowest.nd rfl rfl (by decide) rfl rfl (pa_cons (pe_callB call_abs (by rfl) T.n_abs (by decide +kernel) (pa_cons (pv 0) pa_nil)) (pa_cons (pe_callB call_abs (by rfl) T.n_abs (by decide +kernel) (pa_cons (pv 1) pa_nil)) pa_nil)) (by rfl))
      (pss_cons (ps_while (passes_of rfl) (pt_cmpR op_neO (pv 3) pe_int (nomark _)) (pss_one (ps_par (i := 2) (j := 3) (by rfl) sc__law_lowest.nd rfl rfl (by decide) rfl rfl (pa_cons (pv 3) (pa_cons (pe_op og_mod (pe_callTy call_int1 (by rfl) T.n_int (by decide +kernel) (pa_cons (pv 2) pa_nil)) (pv 3)) pa_nil)) (by rfl))))
      (C8.pss_cut (ps_set (i := 4) sc__law_lowest.nd rfl (Or.inl rfl) (pe_ifExp (pt_cmpR op_lt (pv 1) pe_int (nomark _)) (pe_un un_neg pe_int) pe_int))
      (pss_one (ps_ret (pe_tup (pa_cons (pe_op og_fdiv (pe_op og_mul (pv 4) (pv 0)) (pv 2)) (pa_cons (pe_op og_fdiv (pe_op og_mul (pv 4) (pv 1)) (pv 2)) pa_nil)))))))), ?_⟩
    have g0 := gcd_pos (t := u) hl
    have gs : Sz 7900 (Int.gcd u l : Int) := zl.le (gcd_le hl)
    refine ⟨_, rfl, _, rfl, _, rfl, _, rfl, _, _, rfl, ?_⟩
    obtain ⟨a, ha⟩ : ∃ n : Nat, (if u < 0 then -u else u) = n := ⟨u.natAbs, by split <;> omega⟩
    obtain ⟨b, hb⟩ : ∃ n : Nat, (if l < 0 then -l else l) = n := ⟨l.natAbs, by split <;> omega⟩
    have hab : Nat.gcd a b = Int.gcd u l := by
      have e1 : a = u.natAbs := by split at ha <;> omega
      have e2 : b = l.natAbs := by split at hb <;> omega
      rw [e1, e2]
      rfl
    rw [ha, hb]
    refine ⟨fun m σ H' => ∃ i j : Nat, σ = [some (.int u), some (.int l), some (.int i), some (.int j), none] ∧ H' = H ∧ m = j ∧ Nat.gcd i j = Int.gcd u l, ⟨_, a, b, rfl, rfl, rfl, hab⟩, ?_⟩
    rintro m σ H' ⟨i, j, rfl, rfl, rfl, hg⟩
    refine ⟨_, rfl, ne_mk rfl ⟨_, rfl, ite2 (fun hc => ?_) (fun hc => ?_)⟩⟩
    · have hj : 0 < m := by
        have : (m : Int) ≠ 0 := by simpa using hc
        omega
      refine ⟨fun σ' H1 => ∃ i' j' : Nat, σ' = [some (.int u), some (.int l), some (.int i'), some (.int j'), none] ∧ H1 = H' ∧ j' < m ∧ Nat.gcd i' j' = Int.gcd u l, ?_, ?_⟩
      · rintro σ' H1 ⟨i', j', rfl, rfl, hl', hg'⟩
        exact ⟨j', hl', i', j', rfl, rfl, rfl, hg'⟩
      · refine ⟨_, rfl, _, rfl, .inl ⟨_, rfl, _, rfl, _, _, rfl, rfl, by omega, _, _, rfl, m, i % m, ?_, rfl, Nat.mod_lt _ hj, ?_⟩⟩
        · have e : (i : Int).fmod (m : Int) = ((i % m : Nat) : Int) := by
            rw [Int.fmod_eq_emod_of_nonneg _ (by omega)]
            rfl
          show [some (V.int u), some (V.int l), some (V.int m), some (V.int ((i : Int).fmod (m : Int))), none] = _
          rw [e]
        · rw [← hg, Nat.gcd_comm i m, Nat.gcd_rec m i, Nat.gcd_comm]
    · have hj : m = 0 := by
        have : (m : Int) = 0 := by simpa using hc
        omega
      subst hj
      rw [Nat.gcd_zero_right] at hg
      subst hg
      refine ⟨fun σ' H'' => ∃ s : Int, σ' = [some (.int u), some (.int l), some (.int (Int.gcd u l : Int)), some (.int (0 : Nat)), some (.int s)] ∧ H'' = H' ∧ Sz 1 s ∧ nrm u l = ((s * u).fdiv (Int.gcd u l : Int), (s * l).fdiv (Int.gcd u l : Int)), ?_, ?_⟩
      · refine ⟨_, rfl, _, _, rfl, rfl, _, rfl, ite2 (fun hn => ?_) (fun hn => ?_)⟩
        · have hn' : l < 0 := by simpa using hn
          refine ⟨_, rfl, _, rfl, rfl, by unfold Sz; decide, ?_⟩
          unfold nrm
          rw [if_pos hn', Int.neg_one_mul, Int.neg_one_mul]
          rw [← Int.neg_fdiv_neg u, ← Int.neg_fdiv_neg l, Int.neg_neg]
        · have hn' : ¬ l < 0 := by simpa using hn
          refine ⟨_, rfl, rfl, by unfold Sz; decide, ?_⟩
          unfold nrm
          rw [if_neg hn', Int.one_mul, Int.one_mul]
      · rintro σ' H'' ⟨s, rfl, rfl, zs, en⟩
        refine ⟨_, rfl, _, rfl, _, _, rfl, rfl, ⟨1, 60000, zs, zu, by decide⟩, _, rfl, _, _, rfl, rfl, ⟨by omega, 7900, gs, by decide, by decide⟩, ?_⟩
        refine ⟨_, rfl, _, rfl, _, _, rfl, rfl, ⟨1, 7900, zs, zl, by decide⟩, _, rfl, _, _, rfl, rfl, ⟨by omega, 7900, gs, by decide, by decide⟩, by show 2 ≤ sizeLine; decide, fun q hq => ?_⟩
        refine k _ _ (same_new hq) ⟨q, rfl, ?_⟩
        rw [en]
        exact .inl (.inl upd_same)
theorem sc__law_pick : FnScope ["_law_pen_here", "_law_some"] ["_law_pen_here", "_law_some"] (defScope s__law_pick) := ⟨rfl, rfl, rfl, by decide +kernel, rfl, by decide +kernel, by decide +kernel⟩
theorem ok__law_pick (T : Txt K mg D) : FnG P w K mg base 3 D.f__law_pick D.d__law_pick ["_law_pen_here", "_law_some"] (spPick K) := by
  refine Fun.okG T.F__law_pick sc__law_pick (fun vs H Q E h => ?_) (fun cdv A outer s H vs Q E hr h => ?_)
  · obtain ⟨p, c, x, xs, n, rfl, hP, hn, hx, h0, h1, k⟩ := h
    rfl
  · obtain ⟨p, c, x, xs, n, rfl, hP, hn, hx, h0, h1, k⟩ := h
    have G__law_draw : FnG P w K mg base 2 D.f__law_draw D.d__law_draw ["_law_pen_here", "_law_many"] spDraw := ok__law_draw T
    refine ⟨_, (pss_one (ps_ret (pe_ix ix_seq (pv 1) (pc_G G__law_draw (hr.mono (by decide)) takesF T.m__law_draw T.F__law_draw.kp (T.F__law_draw.binds (ps := ["_law_pen_here", "_law_many"]) fun _ _ _ _ _ _ us hl => match us, hl with | [_, _], _ => rfl) .nil (pa_cons (pv 0) (pa_cons (pe_callB call_len (by rfl) T.n_len (by decide +kernel) (pa_cons (pv 1) pa_nil)) pa_nil))) (fun _ _ => rfl)))), ?_⟩
    refine ⟨_, rfl, _, rfl, _, rfl, _, _, rfl, (hx.same Hd.same).len, p, _, _, n, rfl, hP, hn, by omega, (Sz.of_lt (n := 64) (by simp only [Nat.reducePow]; omega) (by simp only [Nat.reducePow]; omega)).mono (by decide), fun r H' r0 r1 hP' B => ?_⟩
    exact (hx.same B.sub).ix r0 r1 fun v hv => k v hv H' hP' B
theorem sc__law_pair : FnScope ["_law_pen_here", "_law_top"] ["_law_pen_here"] (defScope s__law_pair) := ⟨rfl, rfl, rfl, by decide +kernel, rfl, by decide +kernel, by decide +kernel⟩
theorem ok__law_pair (T : Txt K mg D) : FnG P w K mg base 4 D.f__law_pair D.d__law_pair ["_law_pen_here"] (spPair K) := by
  refine Fun.okG T.F__law_pair sc__law_pair (fun vs H Q E h => ?_) (fun cdv A outer s H vs Q E hr h => ?_)
  · obtain ⟨p, c, n, rfl, hP, hn, k⟩ := h
    rfl
  · obtain ⟨p, c, n, rfl, hP, hn, k⟩ := h
    have G__law_draw : FnG P w K mg base 2 D.f__law_draw D.d__law_draw ["_law_pen_here", "_law_many"] spDraw := ok__law_draw T
    have G__law_lowest : FnG P w K mg base 2 D.f__law_lowest D.d__law_lowest ["_law_top", "_law_bottom"] (spLow K) := ok__law_lowest T
    have G__law_pick : FnG P w K mg base 3 D.f__law_pick D.d__law_pick ["_law_pen_here", "_law_some"] (spPick K) := ok__law_pick T
    refine ⟨_, (pss_cons (ps_set (i := 1) sc__law_pair.nd rfl (Or.inl rfl) (pc_G G__law_draw (hr.mono (by decide)) takesF T.m__law_draw T.F__law_draw.kp (T.F__law_draw.binds (ps := ["_law_pen_here", "_law_many"]) fun _ _ _ _ _ _ us hl => match us, hl with | [_, _], _ => rfl) .nil (pa_cons (pv 0) (pa_cons (pc_G G__law_pick (hr.mono (by decide)) takesF T.m__law_pick T.F__law_pick.kp (T.F__law_pick.binds (ps := ["_law_pen_here", "_law_some"]) fun _ _ _ _ _ _ us hl => match us, hl with | [_, _], _ => rfl) .nil (pa_cons (pv 0) (pa_cons (pe_lstN (pa_cons pe_int (pa_cons pe_int (pa_cons pe_int (pa_cons pe_int (pa_cons (pe_op og_pow pe_int pe_int) pa_nil)))))) pa_nil))) pa_nil))))
      (C8.pss_cut (ps_if (pt_cmpR op_eqO (pc_G G__law_draw (hr.mono (by decide)) takesF T.m__law_draw T.F__law_draw.kp (T.F__law_draw.binds (ps := ["_law_pen_here", "_law_many"]) fun _ _ _ _ _ _ us hl => match us, hl with | [_, _], _ => rfl) .nil (pa_cons (pv 0) (pa_cons pe_int pa_nil))) pe_int (nomark _)) (pss_one (ps_set (i := 1) sc__law_pair.nd rfl (Or.inl rfl) (pe_op op_sub pe_int (pv 1)))) pss_nil)
      (pss_one (ps_ret (pc_G G__law_lowest (hr.mono (by decide)) takesF T.m__law_lowest T.F__law_lowest.kp (T.F__law_lowest.binds (ps := ["_law_top", "_law_bottom"]) fun _ _ _ _ _ _ us hl => match us, hl with | [_, _], _ => rfl) .nil (pa_cons (pv 1) (pa_cons (pe_op op_add pe_int (pc_G G__law_draw (hr.mono (by decide)) takesF T.m__law_draw T.F__law_draw.kp (T.F__law_draw.binds (ps := ["_law_pen_here", "_law_many"]) fun _ _ _ _ _ _ us hl => match us, hl with | [_, _], _ => rfl) .nil (pa_cons (pv 0) (pa_cons (pc_G G__law_pick (hr.mono (by decide)) takesF T.m__law_pick T.F__law_pick.kp (T.F__law_pick.binds (ps := ["_law_pen_here", "_law_some"]) fun _ _ _ _ _ _ us hl => match us, hl with | [_, _], _ => rfl) .nil (pa_cons (pv 0) (pa_cons (pe_lstN (pa_cons pe_int (pa_cons pe_int (pa_cons pe_int (pa_cons pe_int (pa_cons pe_int (pa_cons pe_int (pa_cons (pe_op op_sub (pe_op og_pow pe_int pe_int) pe_int) pa_nil)))))))) pa_nil))) pa_nil)))) pa_nil))))))), ?_⟩
    have hpow : CPowG 10 30 := ⟨by decide, 4, by unfold Sz; decide, by decide⟩
    have z30 : ∀ m : Int, 0 < m → m ≤ 10 ^ 30 → Sz 100 m := fun m h1 h2 => by
      have e : (10 : Int) ^ 30 = 1000000000000000000000000000000 := by decide
      rw [e] at h2
      exact Sz.of_lt (by simp only [Nat.reducePow]; omega) (by simp only [Nat.reducePow]; omega)
    refine ⟨_, rfl, _, rfl, _, _, rfl, rfl, hpow, by show 5 ≤ sizeLine; decide, fun q hq hqs => pick_ints [2, 3, 13, 1001, 10 ^ 30] hP (by omega) hq (by decide) (by decide) fun m hm H1 hP1 B1 => ?_⟩
    have hm2 : 0 < m ∧ m ≤ 10 ^ 30 := by
      simp only [List.mem_cons, List.mem_nil_iff, or_false] at hm
      rcases hm with rfl | rfl | rfl | rfl | rfl <;> decide
    refine draw_of hP1 (by omega) hm2.1 ((z30 m hm2.1 hm2.2).mono (by decide)) fun r H2 r0 r1 hP2 B2 => ?_
    have zr : Sz 100 r := (z30 m hm2.1 hm2.2).le (by omega)
    refine ⟨fun σ' H' => ∃ u : Int, σ' = [some (.ref p), some (.int u)] ∧ Sz 100 u ∧ Pen (n + 3) c H' p ∧ But p H H', ?_, ?_⟩
    · refine ⟨_, rfl, draw_of hP2 (by omega) (by decide) (Sz.mono (m := 2) (by unfold Sz; decide) (by decide)) fun r2 H3 _ _ hP3 B3 => eq_mk rfl ⟨_, rfl, ite2 (fun _ => ?_) (fun _ => ?_)⟩⟩
      · refine ⟨_, rfl, _, _, rfl, rfl, _, rfl, ?_, hP3, (B1.trans B2).trans B3⟩
        rw [Int.zero_sub]
        exact zr.neg
      · exact ⟨_, rfl, zr, hP3, (B1.trans B2).trans B3⟩
    · rintro σ' H3 ⟨u, rfl, zu, hP3, B3⟩
      refine ⟨_, rfl, _, rfl, _, rfl, _, _, rfl, rfl, hpow, _, _, rfl, rfl, by show 7 ≤ sizeLine; decide, fun q hq hqs => pick_ints [1, 1, 2, 6, 12, 1000, 10 ^ 30 - 1] hP3 (by omega) hq (by decide) (by decide) fun m hm H4 hP4 B4 => ?_⟩
      have hm2 : 0 < m ∧ m < 10 ^ 30 := by
        simp only [List.mem_cons, List.mem_nil_iff, or_false] at hm
        rcases hm with rfl | rfl | rfl | rfl | rfl | rfl | rfl <;> decide
      refine draw_of hP4 (by omega) hm2.1 ((z30 m hm2.1 (by omega)).mono (by decide)) fun r2 H5 q0 q1 hP5 B5 => ?_
      have zl : Sz 100 (1 + r2) := z30 _ (by omega) (by omega)
      have zn := nrm_sz zu zl
      refine ⟨_, _, rfl, rfl, u, 1 + r2, rfl, by omega, zu.mono (by decide), zl.mono (by decide), fun x H6 S6 hx => ?_⟩
      have hP6 := hP5.same S6
      exact k x _ _ H6 hP6 (B3.trans (B4.trans (B5.trans (.of S6)))) (nrm_low (by omega)) (zn.1.mono (by decide)) (zn.2.mono (by decide)) (hx.hd hP6)
theorem sc__law_near : FnScope ["_law_pen_here", "_law_pair_here", "_law_way"] ["_law_pen_here", "_law_pair_here"] (defScope s__law_near) := ⟨rfl, rfl, rfl, by decide +kernel, rfl, by decide +kernel, by decide +kernel⟩
theorem ok__law_near (T : Txt K mg D) : FnG P w K mg base 5 D.f__law_near D.d__law_near ["_law_pen_here", "_law_pair_here"] (spNear K) := by
  refine Fun.okG T.F__law_near sc__law_near (fun vs H Q E h => ?_) (fun cdv A outer s H vs Q E hr h => ?_)
  · obtain ⟨p, c, n, y, t, b, rfl, hP, hn, hy, l, zt, zb, k⟩ := h
    rfl
  · obtain ⟨p, c, n, y, t, b, rfl, hP, hn, hy, l, zt, zb, k⟩ := h
    have G__law_draw : FnG P w K mg base 2 D.f__law_draw D.d__law_draw ["_law_pen_here", "_law_many"] spDraw := ok__law_draw T
    have G__law_lowest : FnG P w K mg base 2 D.f__law_lowest D.d__law_lowest ["_law_top", "_law_bottom"] (spLow K) := ok__law_lowest T
    have G__law_pair : FnG P w K mg base 4 D.f__law_pair D.d__law_pair ["_law_pen_here"] (spPair K) := ok__law_pair T
    refine ⟨_, (pss_cons (ps_set (i := 2) sc__law_near.nd rfl (Or.inl rfl) (pc_G G__law_draw (hr.mono (by decide)) takesF T.m__law_draw T.F__law_draw.kp (T.F__law_draw.binds (ps := ["_law_pen_here", "_law_many"]) fun _ _ _ _ _ _ us hl => match us, hl with | [_, _], _ => rfl) .nil (pa_cons (pv 0) (pa_cons pe_int pa_nil))))
      (pss_cons (ps_if (pt_cmpR op_eqO (pv 2) pe_int (nomark _)) (pss_one (ps_ret (pv 1))) pss_nil)
      (C8.pss_cut (ps_if (PW.pt (pw_and (pt_cmpR op_eqO (pv 2) pe_int (nomark _)) (pw_and1 (pt_cmpR op_lt (pe_callB call_abs (by rfl) T.n_abs (by decide +kernel) (pa_cons (pe_ix ix_tup (pv 1) pe_int (fun _ _ => rfl)) pa_nil)) (pe_op og_pow pe_int pe_int) (nomark _))))) (pss_one (ps_ret (pc_G G__law_lowest (hr.mono (by decide)) takesF T.m__law_lowest T.F__law_lowest.kp (T.F__law_lowest.binds (ps := ["_law_top", "_law_bottom"]) fun _ _ _ _ _ _ us hl => match us, hl with | [_, _], _ => rfl) .nil (pa_cons (pe_op op_sub (pe_op op_add (pe_ix ix_tup (pv 1) pe_int (fun _ _ => rfl)) (pc_G G__law_draw (hr.mono (by decide)) takesF T.m__law_draw T.F__law_draw.kp (T.F__law_draw.binds (ps := ["_law_pen_here", "_law_many"]) fun _ _ _ _ _ _ us hl => match us, hl with | [_, _], _ => rfl) .nil (pa_cons (pv 0) (pa_cons pe_int pa_nil)))) pe_int) (pa_cons (pe_ix ix_tup (pv 1) pe_int (fun _ _ => rfl)) pa_nil))))) pss_nil)
      (pss_cons (ps_if (pt_cmpR op_eqO (pv 2) pe_int (nomark _)) (pss_one (ps_ret (pc_G G__law_lowest (hr.mono (by decide)) takesF T.m__law_lowest T.F__law_lowest.kp (T.F__law_lowest.binds (ps := ["_law_top", "_law_bottom"]) fun _ _ _ _ _ _ us hl => match us, hl with | [_, _], _ => rfl) .nil (pa_cons (pe_op op_sub pe_int (pe_ix ix_tup (pv 1) pe_int (fun _ _ => rfl))) (pa_cons (pe_ix ix_tup (pv 1) pe_int (fun _ _ => rfl)) pa_nil))))) pss_nil)
      (pss_one (ps_ret (pc_G G__law_pair (hr.mono (by decide)) takesF T.m__law_pair T.F__law_pair.kp (T.F__law_pair.binds (ps := ["_law_pen_here"]) fun _ _ _ _ _ _ us hl => match us, hl with | [_], _ => rfl) .nil (pa_cons (pv 0) pa_nil)))))))), ?_⟩
    have hpow : CPowG 10 29 := ⟨by decide, 4, by unfold Sz; decide, by decide⟩
    have z4 : Sz 4000 4 := Sz.mono (m := 3) (by unfold Sz; decide) (by decide)
    have z3 : Sz 4000 3 := Sz.mono (m := 3) (by unfold Sz; decide) (by decide)
    have hb : b ≠ 0 := by have := l.1; omega
    obtain ⟨py, rfl, sy⟩ := hy
    refine ⟨_, rfl, draw_of hP (by omega) (by decide) z4 fun r H1 _ _ hP1 B1 => ?_⟩
    have sy1 : SqT K H1 py [.int t, .int b] := Same.tup B1.sub sy
    refine ⟨_, rfl, eq_mk rfl ⟨_, rfl, ite2 (fun _ => ⟨_, rfl, k _ t b H1 (hP1.mono (by omega)) B1 l zt zb ⟨py, rfl, Same.tup B1.hd sy⟩⟩) (fun _ => ?_)⟩⟩
    refine ⟨fun σ' H' => σ' = [some (.ref p), some (.ref py), some (.int r)] ∧ H' = H1, ?_, ?_⟩
    · refine ⟨_, rfl, eq_mk rfl ⟨_, rfl, ite2 (fun _ => ?_) (fun _ => iteF ⟨rfl, rfl⟩)⟩⟩
      refine ⟨_, rfl, _, _, _, _, rfl, rfl, sy1, rfl, _, rfl, _, _, rfl, rfl, hpow, _, _, rfl, rfl, _, rfl, ite2 (fun h => ?_) (fun _ => ⟨rfl, rfl⟩)⟩
      have h' : (if t < 0 then -t else t) < 10 ^ 29 := by simpa using h
      have e : (10 : Int) ^ 29 = 100000000000000000000000000000 := by decide
      rw [e] at h'
      refine ⟨_, rfl, _, _, _, _, rfl, rfl, sy1, rfl, _, rfl, draw_of hP1 (by omega) (by decide) z3 fun r2 H2 g0 g1 hP2 B2 => ?_⟩
      have zz : Sz 110 (t + r2 - 1) := Sz.of_lt (by simp only [Nat.reducePow]; split at h' <;> omega) (by simp only [Nat.reducePow]; split at h' <;> omega)
      have B := B1.trans B2
      refine ⟨_, _, rfl, rfl, _, _, rfl, rfl, _, rfl, _, _, _, _, rfl, rfl, Same.tup B.sub sy, rfl, _, _, rfl, hb, zz.mono (by decide), zb.mono (by decide), fun x H3 S3 hx => ?_⟩
      have zn := nrm_sz zz zb
      have hP3 := hP2.same S3
      exact k x _ _ H3 (hP3.mono (by omega)) (B.trans (.of S3)) (nrm_low hb) zn.1 zn.2 (hx.hd hP3)
    · rintro σ' H' ⟨rfl, rfl⟩
      refine ⟨_, rfl, eq_mk rfl ⟨_, rfl, ite2 (fun _ => ?_) (fun _ => ?_)⟩⟩
      · refine ⟨_, rfl, _, _, _, _, rfl, rfl, sy1, rfl, _, _, rfl, rfl, _, rfl, _, _, _, _, rfl, rfl, sy1, rfl, _, _, rfl, hb, ?_⟩
        have zz : Sz 110 (0 - t) := by rw [Int.zero_sub]; exact zt.neg
        refine ⟨zz.mono (by decide), zb.mono (by decide), fun x H3 S3 hx => ?_⟩
        have zn := nrm_sz zz zb
        have hP3 := hP1.same S3
        exact k x _ _ H3 (hP3.mono (by omega)) (B1.trans (.of S3)) (nrm_low hb) zn.1 zn.2 (hx.hd hP3)
      · exact ⟨_, rfl, p, c, _, rfl, hP1, by omega, fun x u d H2 hP2 B2 l2 zu zd hx => k x u d H2 (hP2.mono (by omega)) (B1.trans B2) l2 zu zd hx⟩
theorem sc__law_number : FnScope ["_law_pen_here", "_law_pair_here"] ["_law_pen_here", "_law_pair_here"] (defScope s__law_number) := ⟨rfl, rfl, rfl, by decide +kernel, rfl, by decide +kernel, by decide +kernel⟩
theorem ok__law_number (T : Txt K mg D) : FnG P w K mg base 5 D.f__law_number D.d__law_number ["_law_pen_here", "_law_pair_here"] (spNumber K D.C_Amount) := by
  refine Fun.okG T.F__law_number sc__law_number (fun vs H Q E h => ?_) (fun cdv A outer s H vs Q E hr h => ?_)
  · obtain ⟨p, c, n, y, t, b, rfl, hP, hn, hy, hl, zt, zb, k⟩ := h
    rfl
  · obtain ⟨p, c, n, y, t, b, rfl, hP, hn, hy, hl, zt, zb, k⟩ := h
    have G_Amount_init : FnG P w K mg base 3 D.f_Amount_init D.d_Amount_init ["self", "top", "bottom"] (spAmI K D.C_Amount D.C_BadAmount D.C_NoDivisor) := ok_Amount_init T
    have G__law_draw : FnG P w K mg base 2 D.f__law_draw D.d__law_draw ["_law_pen_here", "_law_many"] spDraw := ok__law_draw T
    obtain ⟨it0, b0⟩ := bndD (ps := ["self", "top", "bottom"]) (n := 3) (ks := []) T.F_Amount_init (by decide) (fun us its ws => match us, its, ws with | [u0, u1, u2], [_], [] => [u0, u1, u2] | _, _, _ => []) (fun us its ws => match us, its, ws with | [u0, u1, u2], [_], [] => [u0, u1, u2] | _, _, _ => []) (fun _ _ _ _ _ _ _ us its ws hu hi hw => match us, its, ws, hu, hi, hw with | [_, _, _], [_], [], _, _, _ => ⟨_, rfl, rfl⟩) (fun hu hd hw r1 rd r2 => by rcases r1 with _ | ⟨u0, r1⟩; (focus (simp at hu)); rcases r1 with _ | ⟨u1, r1⟩; (focus (simp at hu)); rcases r1 with _ | ⟨u2, r1⟩; (focus (simp at hu)); rcases r1 with _ | ⟨_, _⟩; (rotate_left; (focus (simp at hu))); rcases r2 with _ | ⟨_, _⟩; (rotate_left; (focus (simp at hw))); rcases rd with _ | ⟨z0, rd⟩; (focus (simp at hd)); rcases rd with _ | ⟨_, _⟩; (rotate_left; (focus (simp at hd))); exact (.cons u0 (.cons u1 (.cons u2 .nil))))
    refine ⟨_, (C8.pss_cut (ps_if (PW.pt (pw_and (pt_cmpR op_eqO (pe_ix ix_tup (pv 1) pe_int (fun _ _ => rfl)) pe_int (nomark _)) (pw_and1 (pt_cmpR op_eqO (pc_G G__law_draw (hr.mono (by decide)) takesF T.m__law_draw T.F__law_draw.kp (T.F__law_draw.binds (ps := ["_law_pen_here", "_law_many"]) fun _ _ _ _ _ _ us hl => match us, hl with | [_, _], _ => rfl) .nil (pa_cons (pv 0) (pa_cons pe_int pa_nil))) pe_int (nomark _))))) (pss_one (ps_ret (pe_ix ix_tup (pv 1) pe_int (fun _ _ => rfl)))) pss_nil)
      (pss_one (ps_ret (pk_GW T.mk_Amount G_Amount_init (hr.mono (by decide)) (takes_of (E := E) rfl rfl rfl rfl) T.g_Amount b0 (pa_cons (pe_ix ix_tup (pv 1) pe_int (fun _ _ => rfl)) (pa_cons (pe_ix ix_tup (pv 1) pe_int (fun _ _ => rfl)) pa_nil)) pk_nil)))), ?_⟩
    have hd2 : Sz 4000 2 := Sz.mono (m := 2) (by unfold Sz; decide) (by decide)
    have pr0 : ∀ {H' : Hp}, But p H H' → Pr K H' y t b := fun B => hy.same B.sub
    obtain ⟨py, rfl, sy⟩ := hy
    have sy0 : SqT K H py [.int t, .int b] := Same.tup Hd.same sy
    refine ⟨fun σ' H' => σ' = [some (.ref p), some (.ref py)] ∧ Pen (n + 1) c H' p ∧ But p H H', ?_, ?_⟩
    · refine ⟨_, rfl, _, _, _, _, rfl, rfl, sy0, rfl, eq_mk rfl ⟨_, rfl, ite2 (fun hb => ?_) (fun _ => iteF ⟨rfl, hP.mono (by omega), .refl⟩)⟩⟩
      have hb1 : b = 1 := by simpa using hb
      refine ⟨_, rfl, draw_of hP (by omega) (by decide) hd2 fun r H1 _ _ hP1 B1 => eq_mk rfl ⟨_, rfl, ite2 (fun _ => ?_) (fun _ => ⟨rfl, hP1, B1⟩)⟩⟩
      exact ⟨_, rfl, _, _, _, _, rfl, rfl, Same.tup B1.sub sy, rfl, k _ H1 (hP1.mono (by omega)) B1 (.inl ⟨rfl, hb1⟩)⟩
    · rintro σ' H1 ⟨rfl, hP1, B1⟩
      have sy2 : SqT K H1 py [.int t, .int b] := Same.tup B1.sub sy
      refine ⟨_, rfl, _, _, _, _, rfl, rfl, sy2, rfl, _, rfl, _, _, _, _, rfl, rfl, sy2, rfl, rfl, rfl, am_mk (by have := hl.1; omega) (zb.mono (by decide)) fun z H3 S3 hz => ?_⟩
      rw [low_nrm hl] at hz
      have hP3 := hP1.same S3
      exact k _ H3 (hP3.mono (by omega)) (B1.trans (.of S3)) (.inr (hz.hd hP3))
theorem sc__law_pen : FnScope ["_law_script"] ["_law_script"] (defScope s__law_pen) := ⟨rfl, rfl, rfl, by decide +kernel, rfl, by decide +kernel, by decide +kernel⟩
theorem ok__law_pen (T : Txt K mg D) : FnG P w K mg base 2 D.f__law_pen D.d__law_pen ["_law_script"] (spPen K) := by
  refine Fun.okG T.F__law_pen sc__law_pen (fun vs H Q E h => ?_) (fun cdv A outer s H vs Q E hr h => ?_)
  · obtain ⟨a, ns, rfl, hs, hl, hz, k⟩ := h
    rfl
  · obtain ⟨a, ns, rfl, hs, hl, hz, k⟩ := h

    refine ⟨_, (pss_one (ps_ret (pe_lstN (pa_cons (pe_callTy call_list_of (by rfl) T.n_list (by decide +kernel) (pa_cons (pe_slice sl_list (pv 0) po_none (po_some pe_int)) pa_nil)) (pa_cons pe_int (pa_cons pe_int pa_nil)))))), ?_⟩
    have e : cutV (ns.map V.int) none (some 63) = ns.map V.int := by
      have e1 : HT.sIx ns.length ns.length (some 63) = ns.length := by
        show (if (63 : Int) < 0 then ((63 : Int) + (ns.length : Nat)).toNat else min (63 : Int).toNat ns.length) = _
        rw [if_neg (by decide)]
        exact Nat.min_eq_right hl
      unfold cutV
      rw [List.length_map, e1, HT.sIx_none]
      simpa using List.take_of_length_le (by simp)
    refine ⟨_, rfl, _, rfl, _, _, rfl, hs, fun q hq => ⟨q, _, rfl, .inl (SqL.of upd_same), fun l hl2 => ⟨by show 3 ≤ sizeLine; decide, fun p hp _ => ?_⟩⟩⟩
    obtain ⟨n1, hp1⟩ := none_of_upd hp
    obtain ⟨n2, hp2⟩ := none_of_upd hp1
    refine k p l _ hp2 (none_of_upd hl2).2 ⟨ns, 0, 0, upd_same, ?_, fun z => n1 z.symm, by decide, by decide, by decide, Sz.mono (m := 64) (by walk_at "sz") (by decide), hz, hl⟩ (((same_new hq).trans (same_new hl2)).trans (same_new hp))
    rw [upd_ne (fun z => n1 z.symm), upd_same, e]
theorem sc_Amount_ge : FnScope ["self", "other", "top", "bottom"] ["self", "other"] (defScope s_Amount_ge) := ⟨rfl, rfl, rfl, by decide +kernel, rfl, by decide +kernel, by decide +kernel⟩
theorem ok_Amount_ge (T : Txt K mg D) : FnG P w K mg base 3 D.f_Amount_ge D.d_Amount_ge ["self", "other"] (spCmp D.C_Amount (fun i j => decide (j ≤ i))) := by
  refine Fun.okG T.F_Amount_ge sc_Amount_ge (fun vs H Q E h => ?_) (fun cdv A outer s H vs Q E hr h => ?_)
  · obtain ⟨x, y, t, b, u, d, rfl, hx, hy, zt, zb, zu, zd, k⟩ := h
    rfl
  · obtain ⟨x, y, t, b, u, d, rfl, hx, hy, zt, zb, zu, zd, k⟩ := h
    have G_halves_of : FnG P w K mg base 2 D.f_halves_of D.d_halves_of ["number"] (spHalves K D.C_Amount) := ok_halves_of T
    refine ⟨_, (pss_cons (ps_asg (pc_G G_halves_of (hr.mono (by decide)) takesF T.m_halves_of T.F_halves_of.kp (T.F_halves_of.binds (ps := ["number"]) fun _ _ _ _ _ _ us hl => match us, hl with | [_], _ => rfl) .nil (pa_cons (pv 1) pa_nil)) (pg_tup rfl (pgs_cons (pg_name (i := 2) sc_Amount_ge.nd rfl (Or.inl rfl)) (pgs_cons (pg_name (i := 3) sc_Amount_ge.nd rfl (Or.inl rfl)) pgs_nil))))
      (pss_one (ps_ret (pe_cmpR op_ge (pe_op og_mul (pe_fld (pv 0) rfl) (pv 3)) (pe_op og_mul (pv 2) (pe_fld (pv 0) rfl)) (nomark _))))), ?_⟩
    obtain ⟨ax, dx, rfl, ea⟩ := hx
    refine ⟨_, rfl, y, u, d, rfl, hy, fun p H1 S1 sq => ⟨p, _, rfl, sq, rfl, _, _, rfl, _, _, rfl, rfl, ?_⟩⟩
    have ea1 := S1 _ _ ea
    exact ⟨_, rfl, ax, _, dx, _, _, rfl, ea1, T.cl_Amount.cls, T.no_Amount_top, rfl, _, rfl, _, _, rfl, rfl, ⟨60000, 60000, zt, zd, by decide⟩, _, rfl, _, rfl, ax, _, dx, _, _, rfl, ea1, T.cl_Amount.cls, T.no_Amount_bottom, rfl, _, _, rfl, rfl, ⟨60000, 60000, zu, zb, by decide⟩, _, _, rfl, rfl, k H1 S1⟩
theorem sc_Amount_gt : FnScope ["self", "other", "top", "bottom"] ["self", "other"] (defScope s_Amount_gt) := ⟨rfl, rfl, rfl, by decide +kernel, rfl, by decide +kernel, by decide +kernel⟩
theorem ok_Amount_gt (T : Txt K mg D) : FnG P w K mg base 3 D.f_Amount_gt D.d_Amount_gt ["self", "other"] (spCmp D.C_Amount (fun i j => decide (j < i))) := by
  refine Fun.okG T.F_Amount_gt sc_Amount_gt (fun vs H Q E h => ?_) (fun cdv A outer s H vs Q E hr h => ?_)
  · obtain ⟨x, y, t, b, u, d, rfl, hx, hy, zt, zb, zu, zd, k⟩ := h
    rfl
  · obtain ⟨x, y, t, b, u, d, rfl, hx, hy, zt, zb, zu, zd, k⟩ := h
    have G_halves_of : FnG P w K mg base 2 D.f_halves_of D.d_halves_of ["number"] (spHalves K D.C_Amount) := ok_halves_of T
    refine ⟨_, (pss_cons (ps_asg (pc_G G_halves_of (hr.mono (by decide)) takesF T.m_halves_of T.F_halves_of.kp (T.F_halves_of.binds (ps := ["number"]) fun _ _ _ _ _ _ us hl => match us, hl with | [_], _ => rfl) .nil (pa_cons (pv 1) pa_nil)) (pg_tup rfl (pgs_cons (pg_name (i := 2) sc_Amount_gt.nd rfl (Or.inl rfl)) (pgs_cons (pg_name (i := 3) sc_Amount_gt.nd rfl (Or.inl rfl)) pgs_nil))))
      (pss_one (ps_ret (pe_cmpR op_gt (pe_op og_mul (pe_fld (pv 0) rfl) (pv 3)) (pe_op og_mul (pv 2) (pe_fld (pv 0) rfl)) (nomark _))))), ?_⟩
    obtain ⟨ax, dx, rfl, ea⟩ := hx
    refine ⟨_, rfl, y, u, d, rfl, hy, fun p H1 S1 sq => ⟨p, _, rfl, sq, rfl, _, _, rfl, _, _, rfl, rfl, ?_⟩⟩
    have ea1 := S1 _ _ ea
    exact ⟨_, rfl, ax, _, dx, _, _, rfl, ea1, T.cl_Amount.cls, T.no_Amount_top, rfl, _, rfl, _, _, rfl, rfl, ⟨60000, 60000, zt, zd, by decide⟩, _, rfl, _, rfl, ax, _, dx, _, _, rfl, ea1, T.cl_Amount.cls, T.no_Amount_bottom, rfl, _, _, rfl, rfl, ⟨60000, 60000, zu, zb, by decide⟩, _, _, rfl, rfl, k H1 S1⟩
theorem sc_Amount_le : FnScope ["self", "other", "top", "bottom"] ["self", "other"] (defScope s_Amount_le) := ⟨rfl, rfl, rfl, by decide +kernel, rfl, by decide +kernel, by decide +kernel⟩
theorem ok_Amount_le (T : Txt K mg D) : FnG P w K mg base 3 D.f_Amount_le D.d_Amount_le ["self", "other"] (spCmp D.C_Amount (fun i j => decide (i ≤ j))) := by
  refine Fun.okG T.F_Amount_le sc_Amount_le (fun vs H Q E h => ?_) (fun cdv A outer s H vs Q E hr h => ?_)
  · obtain ⟨x, y, t, b, u, d, rfl, hx, hy, zt, zb, zu, zd, k⟩ := h
    rfl
  · obtain ⟨x, y, t, b, u, d, rfl, hx, hy, zt, zb, zu, zd, k⟩ := h
    have G_halves_of : FnG P w K mg base 2 D.f_halves_of D.d_halves_of ["number"] (spHalves K D.C_Amount) := ok_halves_of T
    refine ⟨_, (pss_cons (ps_asg (pc_G G_halves_of (hr.mono (by decide)) takesF T.m_halves_of T.F_halves_of.kp (T.F_halves_of.binds (ps := ["number"]) fun _ _ _ _ _ _ us hl => match us, hl with | [_], _ => rfl) .nil (pa_cons (pv 1) pa_nil)) (pg_tup rfl (pgs_cons (pg_name (i := 2) sc_Amount_le.nd rfl (Or.inl rfl)) (pgs_cons (pg_name (i := 3) sc_Amount_le.nd rfl (Or.inl rfl)) pgs_nil))))
      (pss_one (ps_ret (pe_cmpR op_le (pe_op og_mul (pe_fld (pv 0) rfl) (pv 3)) (pe_op og_mul (pv 2) (pe_fld (pv 0) rfl)) (nomark _))))), ?_⟩
    obtain ⟨ax, dx, rfl, ea⟩ := hx
    refine ⟨_, rfl, y, u, d, rfl, hy, fun p H1 S1 sq => ⟨p, _, rfl, sq, rfl, _, _, rfl, _, _, rfl, rfl, ?_⟩⟩
    have ea1 := S1 _ _ ea
    exact ⟨_, rfl, ax, _, dx, _, _, rfl, ea1, T.cl_Amount.cls, T.no_Amount_top, rfl, _, rfl, _, _, rfl, rfl, ⟨60000, 60000, zt, zd, by decide⟩, _, rfl, _, rfl, ax, _, dx, _, _, rfl, ea1, T.cl_Amount.cls, T.no_Amount_bottom, rfl, _, _, rfl, rfl, ⟨60000, 60000, zu, zb, by decide⟩, _, _, rfl, rfl, k H1 S1⟩
theorem sc_Amount_lt : FnScope ["self", "other", "top", "bottom"] ["self", "other"] (defScope s_Amount_lt) := ⟨rfl, rfl, rfl, by decide +kernel, rfl, by decide +kernel, by decide +kernel⟩
theorem ok_Amount_lt (T : Txt K mg D) : FnG P w K mg base 3 D.f_Amount_lt D.d_Amount_lt ["self", "other"] (spCmp D.C_Amount (fun i j => decide (i < j))) := by
  refine Fun.okG T.F_Amount_lt sc_Amount_lt (fun vs H Q E h => ?_) (fun cdv A outer s H vs Q E hr h => ?_)
  · obtain ⟨x, y, t, b, u, d, rfl, hx, hy, zt, zb, zu, zd, k⟩ := h
    rfl
  · obtain ⟨x, y, t, b, u, d, rfl, hx, hy, zt, zb, zu, zd, k⟩ := h
    have G_halves_of : FnG P w K mg base 2 D.f_halves_of D.d_halves_of ["number"] (spHalves K D.C_Amount) := ok_halves_of T
    refine ⟨_, (pss_cons (ps_asg (pc_G G_halves_of (hr.mono (by decide)) takesF T.m_halves_of T.F_halves_of.kp (T.F_halves_of.binds (ps := ["number"]) fun _ _ _ _ _ _ us hl => match us, hl with | [_], _ => rfl) .nil (pa_cons (pv 1) pa_nil)) (pg_tup rfl (pgs_cons (pg_name (i := 2) sc_Amount_lt.nd rfl (Or.inl rfl)) (pgs_cons (pg_name (i := 3) sc_Amount_lt.nd rfl (Or.inl rfl)) pgs_nil))))
      (pss_one (ps_ret (pe_cmpR op_lt (pe_op og_mul (pe_fld (pv 0) rfl) (pv 3)) (pe_op og_mul (pv 2) (pe_fld (pv 0) rfl)) (nomark _))))), ?_⟩
    obtain ⟨ax, dx, rfl, ea⟩ := hx
    refine ⟨_, rfl, y, u, d, rfl, hy, fun p H1 S1 sq => ⟨p, _, rfl, sq, rfl, _, _, rfl, _, _, rfl, rfl, ?_⟩⟩
    have ea1 := S1 _ _ ea
    exact ⟨_, rfl, ax, _, dx, _, _, rfl, ea1, T.cl_Amount.cls, T.no_Amount_top, rfl, _, rfl, _, _, rfl, rfl, ⟨60000, 60000, zt, zd, by decide⟩, _, rfl, _, rfl, ax, _, dx, _, _, rfl, ea1, T.cl_Amount.cls, T.no_Amount_bottom, rfl, _, _, rfl, rfl, ⟨60000, 60000, zu, zb, by decide⟩, _, _, rfl, rfl, k H1 S1⟩
theorem sc__law_signs_right : FnScope ["_law_left", "_law_right", "_law_one", "_law_two", "_law_gap", "_law_found"] ["_law_left", "_law_right", "_law_one", "_law_two"] (defScope s__law_signs_right) := ⟨rfl, rfl, rfl, by decide +kernel, rfl, by decide +kernel, by decide +kernel⟩
theorem ok__law_signs_right (T : Txt K mg D) : FnG P w K mg base 6 D.f__law_signs_right D.d__law_signs_right ["_law_left", "_law_right", "_law_one", "_law_two"] (spSigns K D.C_Amount) := by
  refine Fun.okG T.F__law_signs_right sc__law_signs_right (fun vs H Q E h => ?_) (fun cdv A outer s H vs Q E hr h => ?_)
  · obtain ⟨x, y, z, v, t, b, u, d, rfl, np, hz, hw, l1, l2, zt, zb, zu, zd, k⟩ := h
    rfl
  · obtain ⟨x, y, z, v, t, b, u, d, rfl, np, hz, hw, l1, l2, zt, zb, zu, zd, k⟩ := h
    have G_Amount_eq : FnG P w K mg base 4 D.f_Amount_eq D.d_Amount_eq ["self", "other"] (spEq K D.C_Amount) := ok_Amount_eq T
    have G_Amount_ge : FnG P w K mg base 3 D.f_Amount_ge D.d_Amount_ge ["self", "other"] (spCmp D.C_Amount (fun i j => decide (j ≤ i))) := ok_Amount_ge T
    have G_Amount_gt : FnG P w K mg base 3 D.f_Amount_gt D.d_Amount_gt ["self", "other"] (spCmp D.C_Amount (fun i j => decide (j < i))) := ok_Amount_gt T
    have G_Amount_le : FnG P w K mg base 3 D.f_Amount_le D.d_Amount_le ["self", "other"] (spCmp D.C_Amount (fun i j => decide (i ≤ j))) := ok_Amount_le T
    have G_Amount_lt : FnG P w K mg base 3 D.f_Amount_lt D.d_Amount_lt ["self", "other"] (spCmp D.C_Amount (fun i j => decide (i < j))) := ok_Amount_lt T
    refine ⟨_, (pss_cons (ps_set (i := 4) sc__law_signs_right.nd rfl (Or.inl rfl) (pe_op op_sub (pe_op og_mul (pe_ix ix_tup (pv 2) pe_int (fun _ _ => rfl)) (pe_ix ix_tup (pv 3) pe_int (fun _ _ => rfl))) (pe_op og_mul (pe_ix ix_tup (pv 3) pe_int (fun _ _ => rfl)) (pe_ix ix_tup (pv 2) pe_int (fun _ _ => rfl)))))
      (pss_cons (ps_set (i := 5) sc__law_signs_right.nd rfl (Or.inl rfl) (pe_lstN (pa_cons (pe_cmpS (OpS.or (os_cmp (fun _ _ => rfl) T.cl_Amount T.sp_Amount_lt T.fn_Amount_lt G_Amount_lt (hr.mono (by decide)) takesF (T.F_Amount_lt.binds (ps := ["self", "other"]) fun _ _ _ _ _ _ us hl => match us, hl with | [_, _], _ => rfl)) (os_cmpR cd_lt T.cl_Amount T.sp_Amount_gt T.fn_Amount_gt G_Amount_gt (hr.mono (by decide)) takesF (T.F_Amount_gt.binds (ps := ["self", "other"]) fun _ _ _ _ _ _ us hl => match us, hl with | [_, _], _ => rfl))) (pv 0) (pv 1) (nomark _)) (pa_cons (pe_cmpS (OpS.or (os_cmp (fun _ _ => rfl) T.cl_Amount T.sp_Amount_le T.fn_Amount_le G_Amount_le (hr.mono (by decide)) takesF (T.F_Amount_le.binds (ps := ["self", "other"]) fun _ _ _ _ _ _ us hl => match us, hl with | [_, _], _ => rfl)) (os_cmpR cd_le T.cl_Amount T.sp_Amount_ge T.fn_Amount_ge G_Amount_ge (hr.mono (by decide)) takesF (T.F_Amount_ge.binds (ps := ["self", "other"]) fun _ _ _ _ _ _ us hl => match us, hl with | [_, _], _ => rfl))) (pv 0) (pv 1) (nomark _)) (pa_cons (pe_cmpS (OpS.or (os_cmp (fun _ _ => rfl) T.cl_Amount T.sp_Amount_gt T.fn_Amount_gt G_Amount_gt (hr.mono (by decide)) takesF (T.F_Amount_gt.binds (ps := ["self", "other"]) fun _ _ _ _ _ _ us hl => match us, hl with | [_, _], _ => rfl)) (os_cmpR cd_gt T.cl_Amount T.sp_Amount_lt T.fn_Amount_lt G_Amount_lt (hr.mono (by decide)) takesF (T.F_Amount_lt.binds (ps := ["self", "other"]) fun _ _ _ _ _ _ us hl => match us, hl with | [_, _], _ => rfl))) (pv 0) (pv 1) (nomark _)) (pa_cons (pe_cmpS (OpS.or (os_cmp (fun _ _ => rfl) T.cl_Amount T.sp_Amount_ge T.fn_Amount_ge G_Amount_ge (hr.mono (by decide)) takesF (T.F_Amount_ge.binds (ps := ["self", "other"]) fun _ _ _ _ _ _ us hl => match us, hl with | [_, _], _ => rfl)) (os_cmpR cd_ge T.cl_Amount T.sp_Amount_le T.fn_Amount_le G_Amount_le (hr.mono (by decide)) takesF (T.F_Amount_le.binds (ps := ["self", "other"]) fun _ _ _ _ _ _ us hl => match us, hl with | [_, _], _ => rfl))) (pv 0) (pv 1) (nomark _)) (pa_cons (pe_cmpS (OpS.or (os_eq T.sp_Amount_eq T.fn_Amount_eq G_Amount_eq (hr.mono (by decide)) (T.F_Amount_eq.binds (ps := ["self", "other"]) fun _ _ _ _ _ _ us hl => match us, hl with | [_, _], _ => rfl)) (os_eqR T.cl_Amount T.sp_Amount_eq T.fn_Amount_eq G_Amount_eq (hr.mono (by decide)) (T.F_Amount_eq.binds (ps := ["self", "other"]) fun _ _ _ _ _ _ us hl => match us, hl with | [_, _], _ => rfl))) (pv 0) (pv 1) (nomark _)) (pa_cons (pe_cmpS (OpS.or (os_ne T.cl_Amount T.ne_Amount T.sp_Amount_eq T.fn_Amount_eq G_Amount_eq (hr.mono (by decide)) (T.F_Amount_eq.binds (ps := ["self", "other"]) fun _ _ _ _ _ _ us hl => match us, hl with | [_, _], _ => rfl)) (os_neR T.cl_Amount T.ne_Amount T.sp_Amount_eq T.fn_Amount_eq G_Amount_eq (hr.mono (by decide)) (T.F_Amount_eq.binds (ps := ["self", "other"]) fun _ _ _ _ _ _ us hl => match us, hl with | [_, _], _ => rfl))) (pv 0) (pv 1) (nomark _)) pa_nil))))))))
      (pss_one (ps_ret (pe_cmpR op_eqO (pe_callB (call_repr hr) (by rfl) T.n_repr (by decide +kernel) (pa_cons (pv 5) pa_nil)) (pe_callB (call_repr hr) (by rfl) T.n_repr (by decide +kernel) (pa_cons (pe_lstN (pa_cons (pe_cmpR op_lt (pv 4) pe_int (nomark _)) (pa_cons (pe_cmpR op_le (pv 4) pe_int (nomark _)) (pa_cons (pe_cmpR op_gt (pv 4) pe_int (nomark _)) (pa_cons (pe_cmpR op_ge (pv 4) pe_int (nomark _)) (pa_cons (pe_cmpR op_eqO (pv 4) pe_int (nomark _)) (pa_cons (pe_cmpR op_neO (pv 4) pe_int (nomark _)) pa_nil))))))) pa_nil)) (nomark _)))))), ?_⟩
    obtain ⟨pz, rfl, sz⟩ := hz
    obtain ⟨pv, rfl, sv⟩ := hw
    have zm : ∀ {i j : Int}, Sz 110 i → Sz 110 j → CMulG i j := fun a b => ⟨110, 110, a, b, by decide⟩
    refine ⟨_, rfl, _, _, _, _, rfl, rfl, sz, rfl, _, rfl, _, _, _, _, rfl, rfl, sv, rfl, _, _, rfl, rfl, zm zt zd, _, rfl, _, _, _, _, rfl, rfl, sv, rfl, _, rfl, _, _, _, _, rfl, rfl, sz, rfl, _, _, rfl, rfl, zm zu zb, _, _, rfl, rfl, ?_⟩
    refine ⟨_, rfl, _, rfl, cmp_np (fun i j => rfl) np zt zb zu zd fun H1 S1 => ⟨_, rfl, _, rfl, cmp_np (fun i j => rfl) (np.same S1) zt zb zu zd fun H2 S2 => ?_⟩⟩
    have S02 := Same.trans S1 S2
    refine ⟨_, rfl, _, rfl, cmp_np (fun i j => rfl) (np.same S02) zt zb zu zd fun H3 S3 => ?_⟩
    have S03 := Same.trans S02 S3
    refine ⟨_, rfl, _, rfl, cmp_np (fun i j => rfl) (np.same S03) zt zb zu zd fun H4 S4 => ?_⟩
    have S04 := Same.trans S03 S4
    refine ⟨_, rfl, _, rfl, eq_np (np.same S04) fun H5 S5 => ?_⟩
    have S05 := Same.trans S04 S5
    refine ⟨_, rfl, _, rfl, ne_np (np.same S05) fun H6 S6 => ?_⟩
    have S06 := Same.trans S05 S6
    have sm : ∀ b1 b2 b3 b4 b5 b6 : Bool, Sm 16777216 60 (.list [.bool b1, .bool b2, .bool b3, .bool b4, .bool b5, .bool b6]) := fun b1 b2 b3 b4 b5 b6 =>
      (Sm.list (m := 5000) (n := 5) (k := 0) (by intro e he; simp at he; rcases he with rfl | rfl | rfl | rfl | rfl | rfl <;> exact Sm.bool _) (by simp)).mono (by decide) (by decide)
    refine ⟨by show 6 ≤ sizeLine; decide, fun q hq hqs => ⟨_, rfl, repr_of (.lst (SqL.of upd_same) hqs (.cons (.bl _) (.cons (.bl _) (.cons (.bl _) (.cons (.bl _) (.cons (.bl _) (.cons (.bl _) .nil))))))) (sm _ _ _ _ _ _) ?_⟩⟩
    refine ⟨_, rfl, _, _, rfl, rfl, _, rfl, _, _, rfl, rfl, _, rfl, _, _, rfl, rfl, _, rfl, _, _, rfl, rfl, _, rfl, eq_mk rfl ⟨_, rfl, ne_mk rfl ⟨by show 6 ≤ sizeLine; decide, fun q2 hq2 hqs2 => repr_of (.lst (SqL.of upd_same) hqs2 (.cons (.bl _) (.cons (.bl _) (.cons (.bl _) (.cons (.bl _) (.cons (.bl _) (.cons (.bl _) .nil))))))) (sm _ _ _ _ _ _) ?_⟩⟩⟩
    have e1 : decide (t * d < u * b) = decide (t * d - u * b < 0) := by congr 1; exact propext ⟨fun h => by omega, fun h => by omega⟩
    have e2 : decide (t * d ≤ u * b) = decide (t * d - u * b ≤ 0) := by congr 1; exact propext ⟨fun h => by omega, fun h => by omega⟩
    have e3 : decide (u * b < t * d) = decide (0 < t * d - u * b) := by congr 1; exact propext ⟨fun h => by omega, fun h => by omega⟩
    have e4 : decide (u * b ≤ t * d) = decide (0 ≤ t * d - u * b) := by congr 1; exact propext ⟨fun h => by omega, fun h => by omega⟩
    have e5 : decide (t = u ∧ b = d) = decide (V.int (t * d - u * b) = V.int 0) := by
      congr 1
      refine propext ⟨fun h => by rw [h.1, h.2]; congr 1; omega, fun h => low_unique l1 l2 (by have h' : t * d - u * b = 0 := V.int.inj h; omega)⟩
    exact eq_same (by rw [e1, e2, e3, e4, e5]) (k _ (Same.trans S06 (Same.trans (same_new hq) (same_new hq2))))
theorem sc__law_total_right : FnScope ["_law_pen_here", "_law_pairs", "_law_k", "_law_some", "_law_pair_here", "_law_due", "_law_before", "_law_one", "_law_found", "_law_again"] ["_law_pen_here"] (defScope s__law_total_right) := ⟨rfl, rfl, rfl, by decide +kernel, rfl, by decide +kernel, by decide +kernel⟩
theorem ok__law_total_right (T : Txt K mg D) : FnG P w K mg base 7 D.f__law_total_right D.d__law_total_right ["_law_pen_here"] (spTotR K) := by
  refine Fun.okG T.F__law_total_right sc__law_total_right (fun vs H Q E h => ?_) (fun cdv A outer s H vs Q E hr h => ?_)
  · obtain ⟨p, c, n, rfl, hP, hn, k⟩ := h
    rfl
  · obtain ⟨p, c, n, rfl, hP, hn, k⟩ := h
    have G_Amount_eq : FnG P w K mg base 4 D.f_Amount_eq D.d_Amount_eq ["self", "other"] (spEq K D.C_Amount) := ok_Amount_eq T
    have G_Amount_str : FnG P w K mg base 2 D.f_Amount_str D.d_Amount_str ["self"] (spStr D.C_Amount) := ok_Amount_str T
    have G_Amount_total : FnG P w K mg base 6 D.f_Amount_total D.d_Amount_total ["numbers"] (spTotal K D.C_Amount) := ok_Amount_total T
    have G__law_draw : FnG P w K mg base 2 D.f__law_draw D.d__law_draw ["_law_pen_here", "_law_many"] spDraw := ok__law_draw T
    have G__law_lowest : FnG P w K mg base 2 D.f__law_lowest D.d__law_lowest ["_law_top", "_law_bottom"] (spLow K) := ok__law_lowest T
    have G__law_number : FnG P w K mg base 5 D.f__law_number D.d__law_number ["_law_pen_here", "_law_pair_here"] (spNumber K D.C_Amount) := ok__law_number T
    have G__law_pair : FnG P w K mg base 4 D.f__law_pair D.d__law_pair ["_law_pen_here"] (spPair K) := ok__law_pair T
    refine ⟨_, (pss_cons (ps_lcO (ps_setLc (i := 1) (own := [("_law_k", 2)]) (g := gName 2) (tt := tYes) rfl sc__law_total_right.nd rfl rfl (sw_true rfl rfl rfl (by decide +kernel)) (pi_range1 (by rfl) T.n_range (pa_cons (pc_G G__law_draw (hr.mono (by decide)) takesF T.m__law_draw T.F__law_draw.kp (T.F__law_draw.binds (ps := ["_law_pen_here", "_law_many"]) fun _ _ _ _ _ _ us hl => match us, hl with | [_, _], _ => rfl) .nil (pa_cons (pv 0) (pa_cons pe_int pa_nil))) pa_nil)) (blkOk_by (own := [("_law_k", 2)]) (N := ["_law_pen_here", "_law_pairs", "_law_k", "_law_some", "_law_pair_here", "_law_due", "_law_before", "_law_one", "_law_found", "_law_again"]) (sc := defScope s__law_total_right) (by decide +kernel)) (fun _ _ _ _ _ => (pg_name (i := 2) sc__law_total_right.nd rfl (Or.inl rfl))) (fun _ _ _ _ _ => pts_nil) (fun _ _ _ _ _ => (pc_G G__law_pair (hr.mono (by decide)) takesF T.m__law_pair T.F__law_pair.kp (T.F__law_pair.binds (ps := ["_law_pen_here"]) fun _ _ _ _ _ _ us hl => match us, hl with | [_], _ => rfl) .nil (pa_cons (pv 0) pa_nil)))))
      (pss_cons (ps_lcO (ps_setLc (i := 3) (own := [("_law_pair_here", 4)]) (g := gName 4) (tt := tYes) rfl sc__law_total_right.nd rfl rfl (sw_true rfl rfl rfl (by decide +kernel)) (pi_list (pv 1)) (blkOk_by (own := [("_law_pair_here", 4)]) (N := ["_law_pen_here", "_law_pairs", "_law_k", "_law_some", "_law_pair_here", "_law_due", "_law_before", "_law_one", "_law_found", "_law_again"]) (sc := defScope s__law_total_right) (by decide +kernel)) (fun _ _ _ _ _ => (pg_name (i := 4) sc__law_total_right.nd rfl (Or.inl rfl))) (fun _ _ _ _ _ => pts_nil) (fun _ _ _ _ _ => (pc_G G__law_number (hr.mono (by decide)) takesF T.m__law_number T.F__law_number.kp (T.F__law_number.binds (ps := ["_law_pen_here", "_law_pair_here"]) fun _ _ _ _ _ _ us hl => match us, hl with | [_, _], _ => rfl) .nil (pa_cons (pv 0) (pa_cons (pv 4) pa_nil))))))
      (pss_cons (ps_set (i := 5) sc__law_total_right.nd rfl (Or.inl rfl) (pe_tup (pa_cons pe_int (pa_cons pe_int pa_nil))))
      (C8.pss_cut (ps_forO (passes_of rfl) rfl (pi_list (pv 1)) (pg_name (i := 4) sc__law_total_right.nd rfl (Or.inl rfl))
        (pss_one (ps_set (i := 5) sc__law_total_right.nd rfl (Or.inl rfl) (pc_G G__law_lowest (hr.mono (by decide)) takesF T.m__law_lowest T.F__law_lowest.kp (T.F__law_lowest.binds (ps := ["_law_top", "_law_bottom"]) fun _ _ _ _ _ _ us hl => match us, hl with | [_, _], _ => rfl) .nil (pa_cons (pe_op op_add (pe_op og_mul (pe_ix ix_tup (pv 5) pe_int (fun _ _ => rfl)) (pe_ix ix_tup (pv 4) pe_int (fun _ _ => rfl))) (pe_op og_mul (pe_ix ix_tup (pv 4) pe_int (fun _ _ => rfl)) (pe_ix ix_tup (pv 5) pe_int (fun _ _ => rfl)))) (pa_cons (pe_op og_mul (pe_ix ix_tup (pv 5) pe_int (fun _ _ => rfl)) (pe_ix ix_tup (pv 4) pe_int (fun _ _ => rfl))) pa_nil))))))
      (C8.pss_cut (ps_lcO (ps_setLc (i := 6) (own := [("_law_one", 7)]) (g := gName 7) (tt := tYes) rfl sc__law_total_right.nd rfl rfl (sw_true rfl rfl rfl (by decide +kernel)) (pi_list (pv 3)) (blkOk_by (own := [("_law_one", 7)]) (N := ["_law_pen_here", "_law_pairs", "_law_k", "_law_some", "_law_pair_here", "_law_due", "_law_before", "_law_one", "_law_found", "_law_again"]) (sc := defScope s__law_total_right) (by decide +kernel)) (fun _ _ _ _ _ => (pg_name (i := 7) sc__law_total_right.nd rfl (Or.inl rfl))) (fun _ _ _ _ _ => pts_nil) (fun _ _ _ _ _ => (pe_callTy (CallR.or call_str_int (call_strO T.sp_Amount_str T.fn_Amount_str G_Amount_str (hr.mono (by decide)) (T.F_Amount_str.binds (ps := ["self"]) fun _ _ _ _ _ _ us hl => match us, hl with | [_], _ => rfl))) (by rfl) T.n_str (by decide +kernel) (pa_cons (pv 7) pa_nil)))))
      (pss_cons (ps_par (i := 8) (j := 9) (by rfl) sc__law_total_right.nd rfl rfl (by decide) rfl rfl (pa_cons (pst_GW (pe_glob (v := .ref D.C_Amount) rfl T.g_Amount rfl) T.rd_Amount T.sm_Amount_total G_Amount_total (hr.mono (by decide)) takesF (bndK (ps := ["numbers"]) (n := 1) (ks := []) T.F_Amount_total (fun us ws => match us, ws with | [u0], [] => [u0] | _, _ => []) (fun us ws => match us, ws with | [u0], [] => [u0] | _, _ => []) (fun _ _ _ _ _ _ us ws hu hw => match us, ws, hu, hw with | [_], [], _, _ => rfl) (fun hu hw r1 r2 => by rcases r1 with _ | ⟨u0, r1⟩; (focus (simp at hu)); rcases r1 with _ | ⟨_, _⟩; (rotate_left; (focus (simp at hu))); rcases r2 with _ | ⟨_, _⟩; (rotate_left; (focus (simp at hw))); exact (.cons u0 .nil))) (pa_cons (pv 3) pa_nil) pk_nil) (pa_cons (pst_GW0 (pe_glob (v := .ref D.C_Amount) rfl T.g_Amount rfl) T.rd_Amount T.sm_Amount_total G_Amount_total (hr.mono (by decide)) takesF (bndK (ps := ["numbers"]) (n := 0) (ks := ["numbers"]) T.F_Amount_total (fun us ws => match us, ws with | [], [w0] => [w0] | _, _ => []) (fun us ws => match us, ws with | [], [w0] => [w0] | _, _ => []) (fun _ _ _ _ _ _ us ws hu hw => match us, ws, hu, hw with | [], [_], _, _ => rfl) (fun hu hw r1 r2 => by rcases r1 with _ | ⟨_, _⟩; (rotate_left; (focus (simp at hu))); rcases r2 with _ | ⟨w0, r2⟩; (focus (simp at hw)); rcases r2 with _ | ⟨_, _⟩; (rotate_left; (focus (simp at hw))); exact (.cons w0 .nil))) (pk_cons (pe_callTy call_tuple_of (by rfl) T.n_tuple (by decide +kernel) (pa_cons (pv 3) pa_nil)) pk_nil)) pa_nil)) (by rfl))
      (pss_cons (ps_if (PW.pt (pw_or (pt_not (pt_val (pe_callB call_is (by rfl) T.n_isinstance (by decide +kernel) (pa_cons (pv 8) (pa_cons (pe_glob (v := .ref D.C_Amount) rfl T.g_Amount rfl) pa_nil))))) (pw_or1 (pt_cmpR op_neO (pe_callB (call_repr hr) (by rfl) T.n_repr (by decide +kernel) (pa_cons (pe_lstN (pa_cons (pe_fld (pv 8) rfl) (pa_cons (pe_fld (pv 8) rfl) pa_nil))) pa_nil)) (pe_callB (call_repr hr) (by rfl) T.n_repr (by decide +kernel) (pa_cons (pe_lstN (pa_cons (pe_ix ix_tup (pv 5) pe_int (fun _ _ => rfl)) (pa_cons (pe_ix ix_tup (pv 5) pe_int (fun _ _ => rfl)) pa_nil))) pa_nil)) (nomark _))))) (pss_one (ps_ret pe_bl)) pss_nil)
      (pss_one (ps_ret (pe_and (pe_cmpS (os_eq T.sp_Amount_eq T.fn_Amount_eq G_Amount_eq (hr.mono (by decide)) (T.F_Amount_eq.binds (ps := ["self", "other"]) fun _ _ _ _ _ _ us hl => match us, hl with | [_, _], _ => rfl)) (pv 9) (pv 8) (nomark _)) (pe_one (pe_cmpR (op_eqD hr.room.units) (pe_lcO (own := [("_law_one", 7)]) (g := gName 7) (tt := tYes) rfl sc__law_total_right.nd (pi_list (pv 3)) (blkOk_by (own := [("_law_one", 7)]) (N := ["_law_pen_here", "_law_pairs", "_law_k", "_law_some", "_law_pair_here", "_law_due", "_law_before", "_law_one", "_law_found", "_law_again"]) (sc := defScope s__law_total_right) (by decide +kernel)) (fun _ _ _ _ _ => (pg_name (i := 7) sc__law_total_right.nd rfl (Or.inl rfl))) (fun _ _ _ _ _ => pts_nil) (fun _ _ _ _ _ => (pe_callTy (CallR.or call_str_int (call_strO T.sp_Amount_str T.fn_Amount_str G_Amount_str (hr.mono (by decide)) (T.F_Amount_str.binds (ps := ["self"]) fun _ _ _ _ _ _ us hl => match us, hl with | [_], _ => rfl))) (by rfl) T.n_str (by decide +kernel) (pa_cons (pv 7) pa_nil)))) (pv 6) (nomark _))))))))))))), ?_⟩
    have z7 : Sz 4000 7 := Sz.mono (m := 3) (by unfold Sz; decide) (by decide)
    refine tLc_mk ⟨_, rfl, draw_of hP (by omega) (by decide) z7 fun m H1 r0 r1 hP1 B1 => ⟨_, rfl, by omega, by omega, fun dl hdl => ?_⟩⟩
    have hm : ((List.range m.toNat).map fun k => V.int (0 + (k : Nat))).length ≤ 6 := by simp; omega
    refine lc_in (runs_rng 0 m.toNat) (Nat.le_trans hm (by decide)) (fun k acc H' => H' dl = some (.lst acc) ∧ Pen (n + 1 + 5 * k) c H' p ∧ But p H H' ∧ ∃ qs : List Rat, L2R (fun v q => Pr K H' v q.num q.den ∧ Zr 110 q) acc qs) ⟨upd_same, hP1.same (same_new hdl), B1.trans (.of (same_new hdl)), [], .nil⟩ (fun _ _ _ h => ⟨h.1, trivial⟩) ?_ ?_
    · rintro i acc H2 x ⟨ha, hP2, B2, qs, hq⟩ hl hi -
      have hi6 : i < 6 := by omega
      have hdp : dl ≠ p := hP1.ne hdl
      refine ⟨_, rfl, p, c, _, rfl, hP2, by omega, fun y t b H3 hP3 B3 l3 zt zb h3 => ?_⟩
      have ha3 := B3 _ _ hdp ha
      obtain ⟨q, rfl, rfl⟩ := low_val l3
      refine LcNx.mk (I := fun k acc H' => H' dl = some (.lst acc) ∧ Pen (n + 1 + 5 * k) c H' p ∧ But p H H' ∧ ∃ qs : List Rat, L2R (fun v q => Pr K H' v q.num q.den ∧ Zr 110 q) acc qs) ha3 hl hi (Nat.le_trans hm (by decide)) ⟨upd_same, (hP3.put hdp (hP1.neC hdl)).mono (by omega), (B2.trans B3).put (B1.free hP1.at hdl), qs ++ [q], ?_⟩
      have e : L2R (fun v q => Pr K (upd H3 dl (.lst (acc ++ [y]))) v q.num q.den ∧ Zr 110 q) acc qs := hq.imp fun v r h => ⟨(h.1.but hP2 B3).put ha3, h.2⟩
      exact e.snoc ⟨(h3.same Hd.same).put ha3, zt, zb⟩
    · rintro acc H2 ⟨ha, hP2, B2, qs, hq⟩ hl
      have hq6 : qs.length ≤ 6 := by rw [← hq.1, hl]; exact hm
      have hdp : dl ≠ p := hP1.ne hdl
      have so2 : SqL K H2 dl acc := SqL.of ha
      have soB : ∀ {H'}, But p H2 H' → SqL K H' dl acc := fun B => SqL.of (B _ _ hdp ha)
      refine tLc_mk ⟨_, rfl, _, rfl, ⟨_, so2⟩, fun d2 hd2 => lc_in (runs_list (K := K) (a := dl) (xs := acc)) (by rw [hq.1]; exact Nat.le_trans hq6 (by decide)) (fun k ns H' => H' d2 = some (.lst ns) ∧ Pen (n + 31 + 2 * k) c H' p ∧ But p H2 H' ∧ L2R (fun v q => Num D.C_Amount H' v q.num q.den) ns (qs.take k)) ⟨upd_same, (hP2.same (same_new hd2)).mono (by rw [← hl, hq.1]; omega), .of (same_new hd2), .nil⟩ (fun _ _ _ h => ⟨h.1, soB h.2.2.1⟩) ?_ ?_⟩
      · rintro i ns H3 v ⟨hn3, hP3, B3, hL⟩ hi hk hx
        have h2p : d2 ≠ p := hP2.ne hd2
        have hk6 : i < 6 := by rw [hq.1] at hk; omega
        obtain ⟨q, _, et, hv, zq⟩ := hq.at hx
        refine ⟨_, rfl, _, rfl, p, c, _, v, q.num, q.den, rfl, hP3, by omega, (hv.but hP2 B3).hd hP3, rat_low q, zq.num, zq.den, fun x H4 hP4 B4 hx4 => ?_⟩
        have hn4 := B4 _ _ h2p hn3
        refine LcNx.mk hn4 hi hk (by rw [hq.1]; exact Nat.le_trans hq6 (by decide)) ⟨upd_same, (hP4.put h2p (hP2.neC hd2)).mono (by omega), (B3.trans B4).put hd2, ?_⟩
        rw [et]
        have e : L2R (fun v q => Num D.C_Amount (upd H4 d2 (.lst (ns ++ [x]))) v q.num q.den) ns (qs.take i) := hL.imp fun v r h => (h.but hP3 B4).put hn4
        exact e.snoc ((hx4.same Hd.same).put hn4)
      · rintro ns H3 ⟨hn3, hP3, B3, hL⟩ hi
        rw [hq.1, List.take_length] at hL
        have hq3 := hq.imp (R' := fun v q => Pr K H3 v q.num q.den ∧ Zr 110 q) fun v q h => ⟨h.1.but hP2 B3, h.2⟩
        have so3 := soB B3
        have B03 := B2.trans B3
        refine ⟨by show 2 ≤ sizeLine; decide, fun q0 hq0 => ?_⟩
        have v0 : Pr K (upd H3 q0 (.tup [.int 0, .int 1])) (.ref q0) 0 1 := ⟨q0, rfl, .inl (.inl upd_same)⟩
        have S4 := same_new (u := .tup [.int 0, .int 1]) hq0
        revert v0 S4
        generalize upd H3 q0 _ = H4
        intro v0 S4
        have so4 := L2.Same.seq S4 so3
        have hq4 := hq3.imp (R' := fun v q => Pr K H4 v q.num q.den ∧ Zr 110 q) fun v q h => ⟨h.1.same S4, h.2⟩
        refine ⟨fun σ' H' => ∃ w4 v5, σ' = [some (.ref p), some (.ref dl), none, some (.ref d2), w4, some v5, none, none, none, none] ∧ Same H4 H' ∧ Pr K H' v5 (rsum qs).num (rsum qs).den, ?_, ?_⟩
        · refine tFor_mk ⟨_, rfl, _, rfl, ⟨_, so4⟩, for_in (runs_list (K := K) (a := dl) (xs := acc)) (fun k σ' H' => ∃ w4 v5, σ' = [some (.ref p), some (.ref dl), none, some (.ref d2), w4, some v5, none, none, none, none] ∧ Same H4 H' ∧ Pr K H' v5 (rsum (qs.take k)).num (rsum (qs.take k)).den ∧ Zr (111 * k + 1) (rsum (qs.take k))) ⟨_, _, rfl, Same.refl, v0, Zr.mono (m := 1) (show Zr 1 (0 : Rat) from ⟨by unfold Sz; decide, by unfold Sz; decide⟩) (by omega)⟩ (fun k σ H h => ?_) ?_ ?_⟩
          · obtain ⟨_, _, _, S, _⟩ := h
            exact L2.Same.seq S so4
          · rintro i σ' H5 v ⟨w4, v5, rfl, S5, h5, z5⟩ hi hx
            have hi6 : i < 6 := by rw [hq.1] at hi; omega
            obtain ⟨q, _, et, hv, zq⟩ := hq4.at hx
            obtain ⟨a5, rfl, s5⟩ := h5
            obtain ⟨av, rfl, sv⟩ := hv.same S5
            have es : rsum (qs.take (i + 1)) = rsum (qs.take i) + q := by rw [et, rsum_snoc]
            rw [es]
            generalize rsum (qs.take i) = r at s5 z5
            have z6 : Zr 700 r := z5.mono (by omega)
            have zm : ∀ {i j : Int}, Sz 700 i → Sz 110 j → CMulG i j := fun a b => ⟨700, 110, a, b, by decide⟩
            have zm' : ∀ {i j : Int}, Sz 110 i → Sz 700 j → CMulG i j := fun a b => ⟨110, 700, a, b, by decide⟩
            have ne : (r.den : Int) * (q.den : Int) ≠ 0 := by have := Int.mul_pos (den_pos r) (den_pos q); omega
            refine ⟨_, rfl, _, _, _, _, rfl, rfl, s5, rfl, _, rfl, _, _, _, _, rfl, rfl, sv, rfl, _, _, rfl, rfl, zm z6.num zq.den, _, rfl, _, _, _, _, rfl, rfl, sv, rfl, _, rfl, _, _, _, _, rfl, rfl, s5, rfl, _, _, rfl, rfl, zm' zq.num z6.den, _, _, rfl, rfl, ?_⟩
            refine ⟨_, rfl, _, _, _, _, rfl, rfl, s5, rfl, _, rfl, _, _, _, _, rfl, rfl, sv, rfl, _, _, rfl, rfl, zm z6.den zq.den, _, _, rfl, ne, ((z6.num.mul zq.den).add (zq.num.mul z6.den)).mono (by decide), (z6.den.mul zq.den).mono (by decide), fun x H6 S6 hx => ?_⟩
            have e := rat_add r q
            unfold gAdd at e
            rw [e] at hx
            exact ⟨_, _, rfl, Same.trans S5 S6, hx, (z5.add zq).mono (by omega)⟩
          · rintro σ' H5 ⟨w4, v5, rfl, S5, h5, _⟩
            rw [hq.1, List.take_length] at h5
            exact ⟨_, _, rfl, S5, h5⟩
        · rintro σ' H5 ⟨w4, v5, rfl, S5, h5⟩
          have S35 := Same.trans S4 S5
          have nL : L2R (fun v q => Num D.C_Amount H5 v q.num q.den ∧ Zr 110 q) ns qs := (hL.imp (R' := fun v q => Num D.C_Amount H5 v q.num q.den) fun v q h => h.same S35).and hq.all
          have so5 : SqL K H5 d2 ns := SqL.of (S35 _ _ hn3)
          have mkS : ∀ (H6 : Hp) (S : Same H5 H6) (w6 w8 w9 : Option V) (Q' : VK), (∀ d6 H7, Same H6 H7 → H7 d6 = some (.lst (qs.map fun q => V.str (amS q.num q.den))) → Q' (.ref d6) H7) →
              ∀ dd, H6 dd = none → LcB (Itl K d2) (gName 7) tYes (tCB (fun xs H Q => (∃ i, xs = [V.int i] ∧ i.natAbs.log2 < 1920 ∧ Q (V.str (Str.ofString (toString i))) H) ∨ ∃ x, xs = [x] ∧ IsC D.C_Amount H x ∧ spStr D.C_Amount [x] H (fun v H' => (∃ z, v = V.str z) ∧ Q v H') fun x x_1 x_2 => False) (tCons (tVar 7) tNil)) [7] [some (.ref p), some (.ref dl), none, some (.ref d2), w4, some v5, w6, none, w8, w9] Q' dd H6 := by
            intro H6 S w6 w8 w9 Q' kk dd hdd
            refine lc_in (runs_list (K := K) (a := d2) (xs := ns)) (by rw [nL.1]; exact Nat.le_trans hq6 (by decide)) (fun k acc H' => H' dd = some (.lst acc) ∧ acc = (qs.take k).map (fun q => V.str (amS q.num q.den)) ∧ Same H6 H') ⟨upd_same, rfl, same_new hdd⟩ (fun _ _ _ h => ⟨h.1, L2.Same.seq (Same.trans S h.2.2) so5⟩) ?_ ?_
            · rintro i acc H7 v ⟨ha, he, S7⟩ hi hk hx
              obtain ⟨q, _, et, hv, zq⟩ := nL.at hx
              refine ⟨_, rfl, str_num (hv.same (Same.trans S S7)) (zq.num.mono (by decide)) (zq.den.mono (by decide)) (LcNx.mk ha hi hk (by rw [nL.1]; exact Nat.le_trans hq6 (by decide)) ⟨upd_same, ?_, Same.upd S7 hdd⟩)⟩
              rw [he, et, List.map_append]
              rfl
            · rintro acc H7 ⟨ha, he, S7⟩ -
              rw [nL.1, List.take_length] at he
              exact kk dd H7 S7 (by rw [ha, he])
          refine ⟨fun σ' H' => ∃ d6, σ' = [some (.ref p), some (.ref dl), none, some (.ref d2), w4, some v5, some (.ref d6), none, none, none] ∧ Same H5 H' ∧ H' d6 = some (.lst (qs.map fun q => V.str (amS q.num q.den))), ?_, ?_⟩
          · exact tLc_mk ⟨_, rfl, _, rfl, ⟨_, so5⟩, mkS H5 Same.refl _ _ _ _ fun d6 H7 S7 e7 => ⟨d6, rfl, S7, e7⟩⟩
          · rintro σ' H6 ⟨d6, rfl, S6, e6⟩
            have so6 := L2.Same.seq S6 so5
            refine ⟨rfl, _, rfl, rfl, rfl, d2, ns, qs, rfl, .inl so6, nL.1, by omega, fun i v q a b => ⟨(nL.2 i v q a b).1.same S6, (nL.2 i v q a b).2⟩, fun z8 H8 S8 h8 => ?_⟩
            have S68 := Same.trans S6 S8
            refine ⟨rfl, _, rfl, d2, ns, rfl, .inl ⟨L2.Same.seq S68 so5, fun pt hpt => ⟨rfl, rfl, pt, ns, qs, rfl, .inr (.inl (.inl upd_same)), nL.1, by omega, fun i v q a b => ⟨(nL.2 i v q a b).1.same (Same.trans S68 (same_new hpt)), (nL.2 i v q a b).2⟩, fun z9 H9 S9 h9 => ⟨_, _, rfl, ?_⟩⟩⟩⟩
            have S89 := Same.trans (same_new hpt) S9
            have h89 := h8.same S89
            have S69 := Same.trans S68 S89
            refine ⟨_, rfl, is_own T.cl_Amount (Am.isC h89) ⟨_, rfl, iteF ?_⟩⟩
            have zr := zr_rsum hq.all qs.length (by omega)
            rw [List.take_length] at zr
            have sm : Sm 16777216 60 (.list [.int (rsum qs).num, .int (rsum qs).den]) := (Sm.list (m := 5000) (n := 701) (k := 0) (by intro e he; simp at he; rcases he with rfl | rfl <;> first | exact Sm.int (zr.num.mono (by omega)) (by decide) (by decide) | exact Sm.int (zr.den.mono (by omega)) (by decide) (by decide)) (by simp)).mono (by decide) (by decide)
            obtain ⟨a8, d8, rfl, e8⟩ := h89
            obtain ⟨py, rfl, s5⟩ := h5.same S69
            refine ⟨_, rfl, a8, _, d8, _, _, rfl, e8, T.cl_Amount.cls, T.no_Amount_top, rfl, _, rfl, a8, _, d8, _, _, rfl, e8, T.cl_Amount.cls, T.no_Amount_bottom, rfl, by show 2 ≤ sizeLine; decide, fun p5 hp5 hps5 => repr_of (.lst (SqL.of upd_same) hps5 (.cons (.int _) (.cons (.int _) .nil))) sm ?_⟩
            have sq10 := Same.tup (same_new (u := .lst [.int (rsum qs).num, .int (rsum qs).den]) hp5) s5
            refine ⟨_, rfl, _, _, _, _, rfl, rfl, sq10, rfl, _, rfl, _, _, _, _, rfl, rfl, sq10, rfl, by show 2 ≤ sizeLine; decide, fun p6 hp6 hps6 => repr_of (.lst (SqL.of upd_same) hps6 (.cons (.int _) (.cons (.int _) .nil))) sm (ne_self ⟨_, rfl, iteF ?_⟩)⟩
            have S10 := Same.trans (same_new (u := .lst [.int (rsum qs).num, .int (rsum qs).den]) hp5) (same_new (u := .lst [.int (rsum qs).num, .int (rsum qs).den]) hp6)
            revert S10
            generalize upd (upd H9 p5 _) p6 _ = H10
            intro S10
            have h8' : QA D.C_Amount H10 (.ref a8) (rsum qs) := ⟨a8, d8, rfl, S10 _ _ e8⟩
            have h9' := h9.same S10
            refine ⟨_, rfl, _, rfl, Am.isC h9', .inl (Am.isC h8'), _, _, _, _, rfl, h9', .inl ⟨_, _, .inr h8', fun H11 S11 => ⟨_, rfl, ite2 (fun _ => ?_) (fun z => absurd (by simp) z)⟩⟩⟩
            have S511 := Same.trans S69 (Same.trans S10 S11)
            have S611 := Same.trans S8 (Same.trans S89 (Same.trans S10 S11))
            refine tLc_mk ⟨_, rfl, _, rfl, ⟨_, L2.Same.seq S511 so5⟩, mkS H11 S511 _ _ _ _ fun dq H12 S12 e12 => ?_⟩
            have em : (qs.map fun q => V.str (amS q.num q.den)) = (qs.map fun q => amS q.num q.den).map V.str := by rw [List.map_map]; rfl
            rw [em] at e12
            have e6' := Same.trans S611 S12 _ _ e6
            rw [em] at e6'
            have cl : (PyData.list ((qs.map fun q => amS q.num q.den).map PyData.str)).canLay0 = true := by
              show PyData.canLayAll0 _ = true
              refine cl_strs _ fun y hy => ?_
              obtain ⟨q, _, rfl⟩ := List.mem_map.mp hy
              exact amS_ok _ _
            have sh : SeqAt.shaped (.list ((qs.map fun q => amS q.num q.den).map PyData.str)) = true := by
              unfold SeqAt.shaped
              rw [cl, Bool.true_and]
              refine decide_eq_true ?_
              simp only [PyData.depth]
              exact Nat.le_trans (Nat.succ_le_succ (depthAll_mem (k := 0) fun d m => by
                obtain ⟨y, _, rfl⟩ := List.mem_map.mp m
                exact Nat.le_refl _)) (by decide)
            have S312 := Same.trans S35 (Same.trans S511 S12)
            refine ⟨_, rfl, _, _, .lst (SqL.of e12) (dp_strs _), .lst (SqL.of e6') (dp_strs _), sh, sh, ?_⟩
            rw [PySem.SeqAt.eqv_refl _ cl]
            exact k _ ((hP3.same S312).mono (by rw [hq.1]; omega)) (B03.trans (.of S312))
theorem sc_law : FnScope ["_law_script", "_law_pen_here", "_law_turn", "_law_one", "_law_two", "_law_amount", "_law_other", "_law_none"] ["_law_script"] (defScope s_law) := ⟨rfl, rfl, rfl, by decide +kernel, rfl, by decide +kernel, by decide +kernel⟩
theorem ok_law (T : Txt K mg D) : FnG P w K mg base 8 D.f_law D.d_law ["_law_script"] (spLaw K) := by
  refine Fun.okG T.F_law sc_law (fun vs H Q E h => ?_) (fun cdv A outer s H vs Q E hr h => ?_)
  · obtain ⟨a, ns, rfl, hs, hl, hz, k⟩ := h
    rfl
  · obtain ⟨a, ns, rfl, hs, hl, hz, k⟩ := h
    have G_Amount_eq : FnG P w K mg base 4 D.f_Amount_eq D.d_Amount_eq ["self", "other"] (spEq K D.C_Amount) := ok_Amount_eq T
    have G_Amount_init : FnG P w K mg base 3 D.f_Amount_init D.d_Amount_init ["self", "top", "bottom"] (spAmI K D.C_Amount D.C_BadAmount D.C_NoDivisor) := ok_Amount_init T
    have G_Amount_total : FnG P w K mg base 6 D.f_Amount_total D.d_Amount_total ["numbers"] (spTotal K D.C_Amount) := ok_Amount_total T
    have G__law_alone_right : FnG P w K mg base 6 D.f__law_alone_right D.d__law_alone_right ["_law_pen_here", "_law_amount", "_law_one"] (spAlone K D.C_Amount) := ok__law_alone_right T
    have G__law_near : FnG P w K mg base 5 D.f__law_near D.d__law_near ["_law_pen_here", "_law_pair_here"] (spNear K) := ok__law_near T
    have G__law_number : FnG P w K mg base 5 D.f__law_number D.d__law_number ["_law_pen_here", "_law_pair_here"] (spNumber K D.C_Amount) := ok__law_number T
    have G__law_pair : FnG P w K mg base 4 D.f__law_pair D.d__law_pair ["_law_pen_here"] (spPair K) := ok__law_pair T
    have G__law_pen : FnG P w K mg base 2 D.f__law_pen D.d__law_pen ["_law_script"] (spPen K) := ok__law_pen T
    have G__law_signs_right : FnG P w K mg base 6 D.f__law_signs_right D.d__law_signs_right ["_law_left", "_law_right", "_law_one", "_law_two"] (spSigns K D.C_Amount) := ok__law_signs_right T
    have G__law_total_right : FnG P w K mg base 7 D.f__law_total_right D.d__law_total_right ["_law_pen_here"] (spTotR K) := ok__law_total_right T
    obtain ⟨it0, b0⟩ := bndD (ps := ["self", "top", "bottom"]) (n := 3) (ks := []) T.F_Amount_init (by decide) (fun us its ws => match us, its, ws with | [u0, u1, u2], [_], [] => [u0, u1, u2] | _, _, _ => []) (fun us its ws => match us, its, ws with | [u0, u1, u2], [_], [] => [u0, u1, u2] | _, _, _ => []) (fun _ _ _ _ _ _ _ us its ws hu hi hw => match us, its, ws, hu, hi, hw with | [_, _, _], [_], [], _, _, _ => ⟨_, rfl, rfl⟩) (fun hu hd hw r1 rd r2 => by rcases r1 with _ | ⟨u0, r1⟩; (focus (simp at hu)); rcases r1 with _ | ⟨u1, r1⟩; (focus (simp at hu)); rcases r1 with _ | ⟨u2, r1⟩; (focus (simp at hu)); rcases r1 with _ | ⟨_, _⟩; (rotate_left; (focus (simp at hu))); rcases r2 with _ | ⟨_, _⟩; (rotate_left; (focus (simp at hw))); rcases rd with _ | ⟨z0, rd⟩; (focus (simp at hd)); rcases rd with _ | ⟨_, _⟩; (rotate_left; (focus (simp at hd))); exact (.cons u0 (.cons u1 (.cons u2 .nil))))
    refine ⟨_, (pss_cons (ps_set (i := 1) sc_law.nd rfl (Or.inl rfl) (pc_G G__law_pen (hr.mono (by decide)) takesF T.m__law_pen T.F__law_pen.kp (T.F__law_pen.binds (ps := ["_law_script"]) fun _ _ _ _ _ _ us hl => match us, hl with | [_], _ => rfl) .nil (pa_cons (pv 0) pa_nil)))
      (pss_cons (ps_forO (passes_of rfl) rfl (pi_range1 (by rfl) T.n_range (pa_cons pe_int pa_nil)) (pg_name (i := 2) sc_law.nd rfl (Or.inl rfl))
        (pss_cons (ps_set (i := 3) sc_law.nd rfl (Or.inl rfl) (pc_G G__law_pair (hr.mono (by decide)) takesF T.m__law_pair T.F__law_pair.kp (T.F__law_pair.binds (ps := ["_law_pen_here"]) fun _ _ _ _ _ _ us hl => match us, hl with | [_], _ => rfl) .nil (pa_cons (pv 1) pa_nil)))
      (pss_cons (ps_set (i := 4) sc_law.nd rfl (Or.inl rfl) (pc_G G__law_near (hr.mono (by decide)) takesF T.m__law_near T.F__law_near.kp (T.F__law_near.binds (ps := ["_law_pen_here", "_law_pair_here"]) fun _ _ _ _ _ _ us hl => match us, hl with | [_, _], _ => rfl) .nil (pa_cons (pv 1) (pa_cons (pv 3) pa_nil))))
      (pss_cons (ps_par (i := 5) (j := 6) (by rfl) sc_law.nd rfl rfl (by decide) rfl rfl (pa_cons (pk_GW T.mk_Amount G_Amount_init (hr.mono (by decide)) (takes_of (E := E) rfl rfl rfl rfl) T.g_Amount b0 (pa_cons (pe_ix ix_tup (pv 3) pe_int (fun _ _ => rfl)) (pa_cons (pe_ix ix_tup (pv 3) pe_int (fun _ _ => rfl)) pa_nil)) pk_nil) (pa_cons (pc_G G__law_number (hr.mono (by decide)) takesF T.m__law_number T.F__law_number.kp (T.F__law_number.binds (ps := ["_law_pen_here", "_law_pair_here"]) fun _ _ _ _ _ _ us hl => match us, hl with | [_, _], _ => rfl) .nil (pa_cons (pv 1) (pa_cons (pv 4) pa_nil))) pa_nil)) (by rfl))
      (pss_cons (ps_if (PW.pt (pw_or (pt_not (pt_val (pc_G G__law_signs_right (hr.mono (by decide)) takesF T.m__law_signs_right T.F__law_signs_right.kp (T.F__law_signs_right.binds (ps := ["_law_left", "_law_right", "_law_one", "_law_two"]) fun _ _ _ _ _ _ us hl => match us, hl with | [_, _, _, _], _ => rfl) .nil (pa_cons (pv 5) (pa_cons (pv 6) (pa_cons (pv 3) (pa_cons (pv 4) pa_nil))))))) (pw_or1 (pt_not (pt_val (pc_G G__law_signs_right (hr.mono (by decide)) takesF T.m__law_signs_right T.F__law_signs_right.kp (T.F__law_signs_right.binds (ps := ["_law_left", "_law_right", "_law_one", "_law_two"]) fun _ _ _ _ _ _ us hl => match us, hl with | [_, _, _, _], _ => rfl) .nil (pa_cons (pv 6) (pa_cons (pv 5) (pa_cons (pv 4) (pa_cons (pv 3) pa_nil)))))))))) (pss_one (ps_ret pe_bl)) pss_nil)
      (pss_cons (ps_if (PW.pt (pw_or (pt_not (pt_val (pc_G G__law_signs_right (hr.mono (by decide)) takesF T.m__law_signs_right T.F__law_signs_right.kp (T.F__law_signs_right.binds (ps := ["_law_left", "_law_right", "_law_one", "_law_two"]) fun _ _ _ _ _ _ us hl => match us, hl with | [_, _, _, _], _ => rfl) .nil (pa_cons (pv 5) (pa_cons (pk_GW T.mk_Amount G_Amount_init (hr.mono (by decide)) (takes_of (E := E) rfl rfl rfl rfl) T.g_Amount b0 (pa_cons (pe_ix ix_tup (pv 4) pe_int (fun _ _ => rfl)) (pa_cons (pe_ix ix_tup (pv 4) pe_int (fun _ _ => rfl)) pa_nil)) pk_nil) (pa_cons (pv 3) (pa_cons (pv 4) pa_nil))))))) (pw_or1 (pt_not (pt_val (pc_G G__law_alone_right (hr.mono (by decide)) takesF T.m__law_alone_right T.F__law_alone_right.kp (T.F__law_alone_right.binds (ps := ["_law_pen_here", "_law_amount", "_law_one"]) fun _ _ _ _ _ _ us hl => match us, hl with | [_, _, _], _ => rfl) .nil (pa_cons (pv 1) (pa_cons (pv 5) (pa_cons (pv 3) pa_nil))))))))) (pss_one (ps_ret pe_bl)) pss_nil)
      (pss_one (ps_if (pt_not (pt_val (pc_G G__law_total_right (hr.mono (by decide)) takesF T.m__law_total_right T.F__law_total_right.kp (T.F__law_total_right.binds (ps := ["_law_pen_here"]) fun _ _ _ _ _ _ us hl => match us, hl with | [_], _ => rfl) .nil (pa_cons (pv 1) pa_nil)))) (pss_one (ps_ret pe_bl)) pss_nil))))))))
      (pss_cons (ps_set (i := 7) sc_law.nd rfl (Or.inl rfl) (pst_GW (pe_glob (v := .ref D.C_Amount) rfl T.g_Amount rfl) T.rd_Amount T.sm_Amount_total G_Amount_total (hr.mono (by decide)) takesF (bndK (ps := ["numbers"]) (n := 1) (ks := []) T.F_Amount_total (fun us ws => match us, ws with | [u0], [] => [u0] | _, _ => []) (fun us ws => match us, ws with | [u0], [] => [u0] | _, _ => []) (fun _ _ _ _ _ _ us ws hu hw => match us, ws, hu, hw with | [_], [], _, _ => rfl) (fun hu hw r1 r2 => by rcases r1 with _ | ⟨u0, r1⟩; (focus (simp at hu)); rcases r1 with _ | ⟨_, _⟩; (rotate_left; (focus (simp at hu))); rcases r2 with _ | ⟨_, _⟩; (rotate_left; (focus (simp at hw))); exact (.cons u0 .nil))) (pa_cons (pe_lstN pa_nil) pa_nil) pk_nil))
      (pss_one (ps_ret (pe_cmpR op_eqO (pe_callB (call_repr hr) (by rfl) T.n_repr (by decide +kernel) (pa_cons (pe_lstN (pa_cons (pe_fld (pv 7) rfl) (pa_cons (pe_fld (pv 7) rfl) (pa_cons (pe_cmpS (os_eq T.sp_Amount_eq T.fn_Amount_eq G_Amount_eq (hr.mono (by decide)) (T.F_Amount_eq.binds (ps := ["self", "other"]) fun _ _ _ _ _ _ us hl => match us, hl with | [_, _], _ => rfl)) (pst_GW (pe_glob (v := .ref D.C_Amount) rfl T.g_Amount rfl) T.rd_Amount T.sm_Amount_total G_Amount_total (hr.mono (by decide)) takesF (bndK (ps := ["numbers"]) (n := 1) (ks := []) T.F_Amount_total (fun us ws => match us, ws with | [u0], [] => [u0] | _, _ => []) (fun us ws => match us, ws with | [u0], [] => [u0] | _, _ => []) (fun _ _ _ _ _ _ us ws hu hw => match us, ws, hu, hw with | [_], [], _, _ => rfl) (fun hu hw r1 r2 => by rcases r1 with _ | ⟨u0, r1⟩; (focus (simp at hu)); rcases r1 with _ | ⟨_, _⟩; (rotate_left; (focus (simp at hu))); rcases r2 with _ | ⟨_, _⟩; (rotate_left; (focus (simp at hw))); exact (.cons u0 .nil))) (pa_cons (pe_tup pa_nil) pa_nil) pk_nil) pe_int (nomark _)) (pa_cons (pe_cmpS (os_eq T.sp_Amount_eq T.fn_Amount_eq G_Amount_eq (hr.mono (by decide)) (T.F_Amount_eq.binds (ps := ["self", "other"]) fun _ _ _ _ _ _ us hl => match us, hl with | [_, _], _ => rfl)) (pk_GW T.mk_Amount G_Amount_init (hr.mono (by decide)) (takes_of (E := E) rfl rfl rfl rfl) T.g_Amount b0 (pa_cons pe_int (pa_cons pe_int pa_nil)) pk_nil) pe_int (nomark _)) pa_nil))))) pa_nil)) pe_str (nomark _))))))), ?_⟩
    have tr : ∀ {H1 H2 H3 : Hp}, Same H1 H2 → Same H2 H3 → Same H1 H3 := fun a b => Same.trans a b
    refine ⟨_, rfl, a, ns, rfl, hs, hl, hz, fun p c H0 hp0 hc0 hP0 S0 => ?_⟩
    refine tFor_mk ⟨_, rfl, by decide, by decide, for_in (runs_rng 0 12) (fun i σ H' => (∃ t w3 w4 w5 w6 w7, σ = [some (.ref a), some (.ref p), t, w3, w4, w5, w6, w7]) ∧ Pen (200 * i) c H' p) ⟨⟨_, _, _, _, _, _, rfl⟩, hP0⟩ (fun _ _ _ _ => trivial) ?_ ?_⟩
    · rintro i σ H x ⟨⟨t0, w3, w4, w5, w6, w7, rfl⟩, hP⟩ hi -
      simp only [List.length_map, List.length_range] at hi
      refine ⟨_, rfl, p, c, _, rfl, hP, by omega, fun x1 t b H1 hP1 B1 l1 zt zb hx1 => ⟨_, rfl, _, rfl, p, c, _, x1, t, b, rfl, hP1, by omega, hx1, l1, zt, zb, fun x2 u d H2 hP2 B2 l2 zu zd hx2 => ?_⟩⟩
      have hx1' := hx1.same B2.hd
      obtain ⟨p1, rfl, q1⟩ := hx1'
      obtain ⟨p2, rfl, q2⟩ := hx2
      have sq1 := Same.tup Hd.same q1
      have sq2 := Same.tup Hd.same q2
      refine ⟨_, rfl, _, _, _, _, rfl, rfl, sq1, rfl, _, rfl, _, _, _, _, rfl, rfl, sq1, rfl, rfl, rfl, am_mk (by have := l1.1; omega) (zb.mono (by decide)) fun z5 H3 S3 a3 => ?_⟩
      rw [low_nrm l1] at a3
      have hP3 := hP2.same S3
      refine ⟨_, rfl, _, rfl, p, c, _, _, u, d, rfl, hP3, by omega, ⟨p2, rfl, Same.tup (Same.hd S3) q2⟩, l2, zu, zd, fun z6 H4 hP4 B4 n4 => ⟨_, _, rfl, ?_⟩⟩
      have am : Am D.C_Amount H4 (.ref z5) t b := ((a3.hd hP3).same B4.hd).same Hd.same
      have nu : Num D.C_Amount H4 z6 u d := n4.same Hd.same
      have o1 : Pr K H4 (.ref p1) t b := ⟨p1, rfl, Same.tup Hd.same (Same.tup B4.hd (Same.tup (Same.hd S3) q1))⟩
      have o2 : Pr K H4 (.ref p2) u d := ⟨p2, rfl, Same.tup Hd.same (Same.tup B4.hd (Same.tup (Same.hd S3) q2))⟩
      have r2 : ∀ {H'}, Same H4 H' → SqT K H' p2 [.int u, .int d] := fun S => Same.tup S (Same.tup Hd.same (Same.tup B4.hd (Same.tup (Same.hd S3) q2)))
      refine ⟨_, rfl, _, rfl, _, rfl, _, rfl, .ref z5, z6, .ref p1, .ref p2, t, b, u, d, rfl, .inl ⟨am, nu⟩, o1, o2, l1, l2, zt, zb, zu, zd, fun H5 S5 => ⟨_, rfl, iteF ?_⟩⟩
      have np : NP D.C_Amount H5 z6 (.ref z5) u d t b := by
        rcases nu.same S5 with ⟨rfl, e⟩ | n
        · exact .inr ⟨rfl, e, am.same S5⟩
        · exact .inl ⟨n, .inr (am.same S5)⟩
      refine ⟨_, rfl, _, rfl, _, rfl, _, rfl, z6, .ref z5, .ref p2, .ref p1, u, d, t, b, rfl, np, o2.same S5, o1.same S5, l2, l1, zu, zd, zt, zb, fun H6 S6 => ⟨_, rfl, iteF ?_⟩⟩
      have S06 := tr S5 S6
      refine ⟨_, rfl, _, rfl, _, _, _, _, rfl, rfl, r2 S06, rfl, _, rfl, _, _, _, _, rfl, rfl, r2 S06, rfl, rfl, rfl, am_mk (by have := l2.1; omega) (zd.mono (by decide)) fun z7 H7 S7 a7 => ?_⟩
      rw [low_nrm l2] at a7
      have S07 := tr S06 S7
      refine ⟨_, rfl, _, rfl, .ref z5, .ref z7, .ref p1, .ref p2, t, b, u, d, rfl, .inl ⟨am.same S07, .inr a7⟩, o1.same S07, o2.same S07, l1, l2, zt, zb, zu, zd, fun H8 S8 => ⟨_, rfl, iteF ?_⟩⟩
      have S08 := tr S07 S8
      refine ⟨_, rfl, _, rfl, _, rfl, .ref p, .ref z5, .ref p1, t, b, rfl, am.same S08, o1.same S08, l1, zt, zb, fun H9 S9 => ⟨_, rfl, iteF ?_⟩⟩
      have S09 := tr S08 S9
      refine ⟨_, rfl, p, c, _, rfl, hP4.same S09, by omega, fun H10 hP10 B10 => ⟨_, rfl, iteF ?_⟩⟩
      exact ⟨⟨_, _, _, _, _, _, rfl⟩, hP10.mono (by omega)⟩
    · rintro σ H ⟨⟨t0, w3, w4, w5, w6, w7, rfl⟩, hP⟩
      have z1n : (0 : Rat).num = 0 ∧ ((0 : Rat).den : Int) = 1 := by decide
      have rs0 : rsum [] = 0 := rfl
      refine ⟨rfl, by show 0 ≤ sizeLine; decide, fun q0 hq0 _ => ⟨rfl, rfl, q0, [], [], rfl, .inl (SqL.of upd_same), rfl, by decide, by simp, fun z1 H1 S1 h1 => ?_⟩⟩
      rw [rs0] at h1
      obtain ⟨a1, d1, rfl, e1⟩ := h1
      refine ⟨_, rfl, a1, _, d1, _, _, rfl, e1, T.cl_Amount.cls, T.no_Amount_top, rfl, _, rfl, a1, _, d1, _, _, rfl, e1, T.cl_Amount.cls, T.no_Amount_bottom, rfl, rfl, by show 0 ≤ sizeLine; decide, fun qt hqt => ⟨rfl, rfl, qt, [], [], rfl, .inr (.inl (.inl upd_same)), rfl, by decide, by simp, fun z2 H2 S2 h2 => ?_⟩⟩
      rw [rs0] at h2
      refine ⟨Am.isC h2, .inr ⟨_, .int _⟩, _, _, _, _, rfl, h2, .inl ⟨0, 1, .inl ⟨rfl, rfl⟩, fun H3 S3 => ?_⟩⟩
      refine ⟨rfl, rfl, am_mk (by decide) (Sz.mono (m := 64) (by walk_at "sz") (by decide)) fun z4 H4 S4 a4 => ?_⟩
      have e22 : nrm 2 2 = (1, 1) := by decide
      rw [e22] at a4
      refine ⟨Am.isC a4, .inr ⟨_, .int _⟩, _, _, _, _, rfl, a4, .inl ⟨1, 1, .inl ⟨rfl, rfl⟩, fun H5 S5 => ?_⟩⟩
      have sm : Sm 16777216 60 (.list [.int 0, .int 1, .bool true, .bool true]) := (Sm.list (m := 5000) (n := 65) (k := 0) (by intro e he; simp at he; rcases he with rfl | rfl | rfl <;> first | exact Sm.bool _ | exact Sm.int (by walk_at "sz") (by decide) (by decide)) (by simp)).mono (by decide) (by decide)
      refine ⟨by show 4 ≤ sizeLine; decide, fun q5 hq5 hqs5 => repr_of (.lst (SqL.of upd_same) hqs5 (.cons (.int _) (.cons (.int _) (.cons (.bl _) (.cons (.bl _) .nil))))) sm ?_⟩
      exact eq_same (by decide +kernel) (k _)
end
/-! ### what the top has written, each a fact that k_is finds -/
theorem all_mk {P : Program} {w : World} {K : PySem.W.Frag} {h : Heap} {mg : Str → Option Value} {fa : Addr} (X : K.In h) (G : h.Ns mainGlobals mg) (hfa : mg "law" = some (.ref fa))
    {f_is_whole f_Amount_is_number f_halves_of f_Amount_eq f_common_divisor f_Amount_init f_Amount_add f_Amount_total f_Amount_bool f_Amount_is_whole f_Amount_of f_Amount_str f__law_dict f__law_alone_right f__law_draw f__law_lowest f__law_pick f__law_pair f__law_near f__law_number f__law_pen f_Amount_ge f_Amount_gt f_Amount_le f_Amount_lt f__law_signs_right f__law_total_right f_law f_BadAmount_init C_BadAmount C_NoDivisor C_Amount p_Amount_is_number p_Amount_is_whole p_Amount_of p_Amount_total : Addr} {oc0 kV0 dc0 pm0 cd0 ct0 : Value} {od0 an0 : Option Addr} {sl0 : Array (Option Value)} {oc1 kV1 dc1 pm1 cd1 ct1 : Value} {od1 an1 : Option Addr} {sl1 : Array (Option Value)} {oc2 kV2 dc2 pm2 cd2 ct2 : Value} {od2 an2 : Option Addr} {sl2 : Array (Option Value)} {oc3 kV3 dc3 pm3 cd3 ct3 : Value} {od3 an3 : Option Addr} {sl3 : Array (Option Value)} {oc4 kV4 dc4 pm4 cd4 ct4 : Value} {od4 an4 : Option Addr} {sl4 : Array (Option Value)} {oc5 kV5 dc5 pm5 cd5 ct5 : Value} {od5 an5 : Option Addr} {sl5 : Array (Option Value)} {T5 : Addr} {tc5 : Value} {td5 : Option Addr} {tl5 : Array (Option Value)} {tn5 : Nat} {tt5_0 : Tok} {oc6 kV6 dc6 pm6 cd6 ct6 : Value} {od6 an6 : Option Addr} {sl6 : Array (Option Value)} {oc7 kV7 dc7 pm7 cd7 ct7 : Value} {od7 an7 : Option Addr} {sl7 : Array (Option Value)} {oc8 kV8 dc8 pm8 cd8 ct8 : Value} {od8 an8 : Option Addr} {sl8 : Array (Option Value)} {oc9 kV9 dc9 pm9 cd9 ct9 : Value} {od9 an9 : Option Addr} {sl9 : Array (Option Value)} {oc10 kV10 dc10 pm10 cd10 ct10 : Value} {od10 an10 : Option Addr} {sl10 : Array (Option Value)} {oc11 kV11 dc11 pm11 cd11 ct11 : Value} {od11 an11 : Option Addr} {sl11 : Array (Option Value)} {oc12 kV12 dc12 pm12 cd12 ct12 : Value} {od12 an12 : Option Addr} {sl12 : Array (Option Value)} {oc13 kV13 dc13 pm13 cd13 ct13 : Value} {od13 an13 : Option Addr} {sl13 : Array (Option Value)} {oc14 kV14 dc14 pm14 cd14 ct14 : Value} {od14 an14 : Option Addr} {sl14 : Array (Option Value)} {oc15 kV15 dc15 pm15 cd15 ct15 : Value} {od15 an15 : Option Addr} {sl15 : Array (Option Value)} {oc16 kV16 dc16 pm16 cd16 ct16 : Value} {od16 an16 : Option Addr} {sl16 : Array (Option Value)} {oc17 kV17 dc17 pm17 cd17 ct17 : Value} {od17 an17 : Option Addr} {sl17 : Array (Option Value)} {oc18 kV18 dc18 pm18 cd18 ct18 : Value} {od18 an18 : Option Addr} {sl18 : Array (Option Value)} {oc19 kV19 dc19 pm19 cd19 ct19 : Value} {od19 an19 : Option Addr} {sl19 : Array (Option Value)} {oc20 kV20 dc20 pm20 cd20 ct20 : Value} {od20 an20 : Option Addr} {sl20 : Array (Option Value)} {oc21 kV21 dc21 pm21 cd21 ct21 : Value} {od21 an21 : Option Addr} {sl21 : Array (Option Value)} {oc22 kV22 dc22 pm22 cd22 ct22 : Value} {od22 an22 : Option Addr} {sl22 : Array (Option Value)} {oc23 kV23 dc23 pm23 cd23 ct23 : Value} {od23 an23 : Option Addr} {sl23 : Array (Option Value)} {oc24 kV24 dc24 pm24 cd24 ct24 : Value} {od24 an24 : Option Addr} {sl24 : Array (Option Value)} {oc25 kV25 dc25 pm25 cd25 ct25 : Value} {od25 an25 : Option Addr} {sl25 : Array (Option Value)} {oc26 kV26 dc26 pm26 cd26 ct26 : Value} {od26 an26 : Option Addr} {sl26 : Array (Option Value)} {oc27 kV27 dc27 pm27 cd27 ct27 : Value} {od27 an27 : Option Addr} {sl27 : Array (Option Value)} {oc28 kV28 dc28 pm28 cd28 ct28 : Value} {od28 an28 : Option Addr} {sl28 : Array (Option Value)} {rs1 : List Value} {rs7 : List Value} {rs9 : List Value} {rs10 : List Value} {nm0 q0 : Str} {N0 : Addr} {bs0 bm0 sub0 : List Value} {sn0 : List Str} {ab0 : Bool} {col0 : Option Bool} {dd0 : Option Addr} {m00 m10 m20 m30 m50 : Option Value} {g_Amount_add : Addr}
    (a_BadAmount : PySem.W.nsIn K mainGlobals "BadAmount" = some (some (.ref C_BadAmount)))
    (a_NoDivisor : PySem.W.nsIn K mainGlobals "NoDivisor" = some (some (.ref C_NoDivisor)))
    (a_Amount : PySem.W.nsIn K mainGlobals "Amount" = some (some (.ref C_Amount)))
    (a_is_whole : PySem.W.nsIn K mainGlobals "is_whole" = some (some (.ref f_is_whole)))
    (l_is_whole : K.lookup f_is_whole = some ⟨oc0, od0, .func (PySem.W.fnOf "is_whole" "is_whole" (defArgs s_is_whole) (defBody s_is_whole) (defScope s_is_whole) .none kV0 dc0 pm0 an0 cd0 ct0), sl0⟩)
    (c_is_whole : PySem.W.codeIn K cd0 "is_whole" = true)
    (k_is_whole : PySem.W.keepIn K (.ref f_is_whole) = true)
    (a_Amount_is_number : PySem.W.findCls K (.ref C_Amount) (.type "type") "is_number" = some (.get (.builtin "staticmethod.__get__") (.ref p_Amount_is_number) .none (.ref C_Amount)))
    (r_Amount_is_number : PySem.W.recIn K p_Amount_is_number "staticmethod" = some (.ref f_Amount_is_number :: rs1))
    (l_Amount_is_number : K.lookup f_Amount_is_number = some ⟨oc1, od1, .func (PySem.W.fnOf "is_number" "Amount.is_number" (defArgs s_Amount_is_number) (defBody s_Amount_is_number) (defScope s_Amount_is_number) .none kV1 dc1 pm1 an1 cd1 ct1), sl1⟩)
    (c_Amount_is_number : PySem.W.codeIn K cd1 "Amount.is_number" = true)
    (k_Amount_is_number : PySem.W.keepIn K (.ref f_Amount_is_number) = true)
    (a_halves_of : PySem.W.nsIn K mainGlobals "halves_of" = some (some (.ref f_halves_of)))
    (l_halves_of : K.lookup f_halves_of = some ⟨oc2, od2, .func (PySem.W.fnOf "halves_of" "halves_of" (defArgs s_halves_of) (defBody s_halves_of) (defScope s_halves_of) .none kV2 dc2 pm2 an2 cd2 ct2), sl2⟩)
    (c_halves_of : PySem.W.codeIn K cd2 "halves_of" = true)
    (k_halves_of : PySem.W.keepIn K (.ref f_halves_of) = true)
    (a_Amount_eq : PySem.W.findIn K (.ref C_Amount) "__eq__" = some (some (.ref f_Amount_eq)))
    (l_Amount_eq : K.lookup f_Amount_eq = some ⟨oc3, od3, .func (PySem.W.fnOf "__eq__" "Amount.__eq__" (defArgs s_Amount_eq) (defBody s_Amount_eq) (defScope s_Amount_eq) .none kV3 dc3 pm3 an3 cd3 ct3), sl3⟩)
    (c_Amount_eq : PySem.W.codeIn K cd3 "Amount.__eq__" = true)
    (k_Amount_eq : PySem.W.keepIn K (.ref f_Amount_eq) = true)
    (fn_Amount_eq : PySem.W.isFn K (.ref f_Amount_eq) = true)
    (a_common_divisor : PySem.W.nsIn K mainGlobals "common_divisor" = some (some (.ref f_common_divisor)))
    (l_common_divisor : K.lookup f_common_divisor = some ⟨oc4, od4, .func (PySem.W.fnOf "common_divisor" "common_divisor" (defArgs s_common_divisor) (defBody s_common_divisor) (defScope s_common_divisor) .none kV4 dc4 pm4 an4 cd4 ct4), sl4⟩)
    (c_common_divisor : PySem.W.codeIn K cd4 "common_divisor" = true)
    (k_common_divisor : PySem.W.keepIn K (.ref f_common_divisor) = true)
    (a_Amount_init : PySem.W.findIn K (.ref C_Amount) "__init__" = some (some (.ref f_Amount_init)))
    (l_Amount_init : K.lookup f_Amount_init = some ⟨oc5, od5, .func (PySem.W.fnOf "__init__" "Amount.__init__" (defArgs s_Amount_init) (defBody s_Amount_init) (defScope s_Amount_init) (.ref T5) kV5 dc5 pm5 an5 cd5 ct5), sl5⟩)
    (c_Amount_init : PySem.W.codeIn K cd5 "Amount.__init__" = true)
    (k_Amount_init : PySem.W.keepIn K (.ref f_Amount_init) = true)
    (dl_Amount_init : K.lookup T5 = some ⟨tc5, td5, .seq ([.int (1) tt5_0] : List Value).toArray tn5, tl5⟩)
    (fn_Amount_init : PySem.W.isFn K (.ref f_Amount_init) = true)
    (a_Amount_add : PySem.W.findIn K (.ref C_Amount) "__add__" = some (some (.ref f_Amount_add)))
    (l_Amount_add : K.lookup f_Amount_add = some ⟨oc6, od6, .func (PySem.W.fnOf "__add__" "Amount.__add__" (defArgs s_Amount_add) (defBody s_Amount_add) (defScope s_Amount_add) .none kV6 dc6 pm6 an6 cd6 ct6), sl6⟩)
    (c_Amount_add : PySem.W.codeIn K cd6 "Amount.__add__" = true)
    (k_Amount_add : PySem.W.keepIn K (.ref f_Amount_add) = true)
    (fn_Amount_add : PySem.W.isFn K (.ref f_Amount_add) = true)
    (a_Amount_total : PySem.W.findCls K (.ref C_Amount) (.type "type") "total" = some (.get (.builtin "staticmethod.__get__") (.ref p_Amount_total) .none (.ref C_Amount)))
    (r_Amount_total : PySem.W.recIn K p_Amount_total "staticmethod" = some (.ref f_Amount_total :: rs7))
    (l_Amount_total : K.lookup f_Amount_total = some ⟨oc7, od7, .func (PySem.W.fnOf "total" "Amount.total" (defArgs s_Amount_total) (defBody s_Amount_total) (defScope s_Amount_total) .none kV7 dc7 pm7 an7 cd7 ct7), sl7⟩)
    (c_Amount_total : PySem.W.codeIn K cd7 "Amount.total" = true)
    (k_Amount_total : PySem.W.keepIn K (.ref f_Amount_total) = true)
    (a_Amount_bool : PySem.W.findIn K (.ref C_Amount) "__bool__" = some (some (.ref f_Amount_bool)))
    (l_Amount_bool : K.lookup f_Amount_bool = some ⟨oc8, od8, .func (PySem.W.fnOf "__bool__" "Amount.__bool__" (defArgs s_Amount_bool) (defBody s_Amount_bool) (defScope s_Amount_bool) .none kV8 dc8 pm8 an8 cd8 ct8), sl8⟩)
    (c_Amount_bool : PySem.W.codeIn K cd8 "Amount.__bool__" = true)
    (k_Amount_bool : PySem.W.keepIn K (.ref f_Amount_bool) = true)
    (fn_Amount_bool : PySem.W.isFn K (.ref f_Amount_bool) = true)
    (a_Amount_is_whole : PySem.W.findIn K (.ref C_Amount) "is_whole" = some (some (.ref p_Amount_is_whole)))
    (g_Amount_is_whole : PySem.W.specialIn K (.ref p_Amount_is_whole) "__get__" = some (some (.builtin "property.__get__")))
    (t_Amount_is_whole : PySem.W.takesIn K (.ref p_Amount_is_whole) = some true)
    (r_Amount_is_whole : PySem.W.recIn K p_Amount_is_whole "property" = some (.ref f_Amount_is_whole :: rs9))
    (l_Amount_is_whole : K.lookup f_Amount_is_whole = some ⟨oc9, od9, .func (PySem.W.fnOf "is_whole" "Amount.is_whole" (defArgs s_Amount_is_whole) (defBody s_Amount_is_whole) (defScope s_Amount_is_whole) .none kV9 dc9 pm9 an9 cd9 ct9), sl9⟩)
    (c_Amount_is_whole : PySem.W.codeIn K cd9 "Amount.is_whole" = true)
    (k_Amount_is_whole : PySem.W.keepIn K (.ref f_Amount_is_whole) = true)
    (a_Amount_of : PySem.W.findCls K (.ref C_Amount) (.type "type") "of" = some (.get (.builtin "staticmethod.__get__") (.ref p_Amount_of) .none (.ref C_Amount)))
    (r_Amount_of : PySem.W.recIn K p_Amount_of "staticmethod" = some (.ref f_Amount_of :: rs10))
    (l_Amount_of : K.lookup f_Amount_of = some ⟨oc10, od10, .func (PySem.W.fnOf "of" "Amount.of" (defArgs s_Amount_of) (defBody s_Amount_of) (defScope s_Amount_of) .none kV10 dc10 pm10 an10 cd10 ct10), sl10⟩)
    (c_Amount_of : PySem.W.codeIn K cd10 "Amount.of" = true)
    (k_Amount_of : PySem.W.keepIn K (.ref f_Amount_of) = true)
    (a_Amount_str : PySem.W.findIn K (.ref C_Amount) "__str__" = some (some (.ref f_Amount_str)))
    (l_Amount_str : K.lookup f_Amount_str = some ⟨oc11, od11, .func (PySem.W.fnOf "__str__" "Amount.__str__" (defArgs s_Amount_str) (defBody s_Amount_str) (defScope s_Amount_str) .none kV11 dc11 pm11 an11 cd11 ct11), sl11⟩)
    (c_Amount_str : PySem.W.codeIn K cd11 "Amount.__str__" = true)
    (k_Amount_str : PySem.W.keepIn K (.ref f_Amount_str) = true)
    (fn_Amount_str : PySem.W.isFn K (.ref f_Amount_str) = true)
    (a__law_dict : PySem.W.nsIn K mainGlobals "_law_dict" = some (some (.ref f__law_dict)))
    (l__law_dict : K.lookup f__law_dict = some ⟨oc12, od12, .func (PySem.W.fnOf "_law_dict" "_law_dict" (defArgs s__law_dict) (defBody s__law_dict) (defScope s__law_dict) .none kV12 dc12 pm12 an12 cd12 ct12), sl12⟩)
    (c__law_dict : PySem.W.codeIn K cd12 "_law_dict" = true)
    (k__law_dict : PySem.W.keepIn K (.ref f__law_dict) = true)
    (a__law_alone_right : PySem.W.nsIn K mainGlobals "_law_alone_right" = some (some (.ref f__law_alone_right)))
    (l__law_alone_right : K.lookup f__law_alone_right = some ⟨oc13, od13, .func (PySem.W.fnOf "_law_alone_right" "_law_alone_right" (defArgs s__law_alone_right) (defBody s__law_alone_right) (defScope s__law_alone_right) .none kV13 dc13 pm13 an13 cd13 ct13), sl13⟩)
    (c__law_alone_right : PySem.W.codeIn K cd13 "_law_alone_right" = true)
    (k__law_alone_right : PySem.W.keepIn K (.ref f__law_alone_right) = true)
    (a__law_draw : PySem.W.nsIn K mainGlobals "_law_draw" = some (some (.ref f__law_draw)))
    (l__law_draw : K.lookup f__law_draw = some ⟨oc14, od14, .func (PySem.W.fnOf "_law_draw" "_law_draw" (defArgs s__law_draw) (defBody s__law_draw) (defScope s__law_draw) .none kV14 dc14 pm14 an14 cd14 ct14), sl14⟩)
    (c__law_draw : PySem.W.codeIn K cd14 "_law_draw" = true)
    (k__law_draw : PySem.W.keepIn K (.ref f__law_draw) = true)
    (a__law_lowest : PySem.W.nsIn K mainGlobals "_law_lowest" = some (some (.ref f__law_lowest)))
    (l__law_lowest : K.lookup f__law_lowest = some ⟨oc15, od15, .func (PySem.W.fnOf "_law_lowest" "_law_lowest" (defArgs s__law_lowest) (defBody s__law_lowest) (defScope s__law_lowest) .none kV15 dc15 pm15 an15 cd15 ct15), sl15⟩)
    (c__law_lowest : PySem.W.codeIn K cd15 "_law_lowest" = true)
    (k__law_lowest : PySem.W.keepIn K (.ref f__law_lowest) = true)
    (a__law_pick : PySem.W.nsIn K mainGlobals "_law_pick" = some (some (.ref f__law_pick)))
    (l__law_pick : K.lookup f__law_pick = some ⟨oc16, od16, .func (PySem.W.fnOf "_law_pick" "_law_pick" (defArgs s__law_pick) (defBody s__law_pick) (defScope s__law_pick) .none kV16 dc16 pm16 an16 cd16 ct16), sl16⟩)
    (c__law_pick : PySem.W.codeIn K cd16 "_law_pick" = true)
    (k__law_pick : PySem.W.keepIn K (.ref f__law_pick) = true)
    (a__law_pair : PySem.W.nsIn K mainGlobals "_law_pair" = some (some (.ref f__law_pair)))
    (l__law_pair : K.lookup f__law_pair = some ⟨oc17, od17, .func (PySem.W.fnOf "_law_pair" "_law_pair" (defArgs s__law_pair) (defBody s__law_pair) (defScope s__law_pair) .none kV17 dc17 pm17 an17 cd17 ct17), sl17⟩)
    (c__law_pair : PySem.W.codeIn K cd17 "_law_pair" = true)
    (k__law_pair : PySem.W.keepIn K (.ref f__law_pair) = true)
    (a__law_near : PySem.W.nsIn K mainGlobals "_law_near" = some (some (.ref f__law_near)))
    (l__law_near : K.lookup f__law_near = some ⟨oc18, od18, .func (PySem.W.fnOf "_law_near" "_law_near" (defArgs s__law_near) (defBody s__law_near) (defScope s__law_near) .none kV18 dc18 pm18 an18 cd18 ct18), sl18⟩)
    (c__law_near : PySem.W.codeIn K cd18 "_law_near" = true)
    (k__law_near : PySem.W.keepIn K (.ref f__law_near) = true)
    (a__law_number : PySem.W.nsIn K mainGlobals "_law_number" = some (some (.ref f__law_number)))
    (l__law_number : K.lookup f__law_number = some ⟨oc19, od19, .func (PySem.W.fnOf "_law_number" "_law_number" (defArgs s__law_number) (defBody s__law_number) (defScope s__law_number) .none kV19 dc19 pm19 an19 cd19 ct19), sl19⟩)
    (c__law_number : PySem.W.codeIn K cd19 "_law_number" = true)
    (k__law_number : PySem.W.keepIn K (.ref f__law_number) = true)
    (a__law_pen : PySem.W.nsIn K mainGlobals "_law_pen" = some (some (.ref f__law_pen)))
    (l__law_pen : K.lookup f__law_pen = some ⟨oc20, od20, .func (PySem.W.fnOf "_law_pen" "_law_pen" (defArgs s__law_pen) (defBody s__law_pen) (defScope s__law_pen) .none kV20 dc20 pm20 an20 cd20 ct20), sl20⟩)
    (c__law_pen : PySem.W.codeIn K cd20 "_law_pen" = true)
    (k__law_pen : PySem.W.keepIn K (.ref f__law_pen) = true)
    (a_Amount_ge : PySem.W.findIn K (.ref C_Amount) "__ge__" = some (some (.ref f_Amount_ge)))
    (l_Amount_ge : K.lookup f_Amount_ge = some ⟨oc21, od21, .func (PySem.W.fnOf "__ge__" "Amount.__ge__" (defArgs s_Amount_ge) (defBody s_Amount_ge) (defScope s_Amount_ge) .none kV21 dc21 pm21 an21 cd21 ct21), sl21⟩)
    (c_Amount_ge : PySem.W.codeIn K cd21 "Amount.__ge__" = true)
    (k_Amount_ge : PySem.W.keepIn K (.ref f_Amount_ge) = true)
    (fn_Amount_ge : PySem.W.isFn K (.ref f_Amount_ge) = true)
    (a_Amount_gt : PySem.W.findIn K (.ref C_Amount) "__gt__" = some (some (.ref f_Amount_gt)))
    (l_Amount_gt : K.lookup f_Amount_gt = some ⟨oc22, od22, .func (PySem.W.fnOf "__gt__" "Amount.__gt__" (defArgs s_Amount_gt) (defBody s_Amount_gt) (defScope s_Amount_gt) .none kV22 dc22 pm22 an22 cd22 ct22), sl22⟩)
    (c_Amount_gt : PySem.W.codeIn K cd22 "Amount.__gt__" = true)
    (k_Amount_gt : PySem.W.keepIn K (.ref f_Amount_gt) = true)
    (fn_Amount_gt : PySem.W.isFn K (.ref f_Amount_gt) = true)
    (a_Amount_le : PySem.W.findIn K (.ref C_Amount) "__le__" = some (some (.ref f_Amount_le)))
    (l_Amount_le : K.lookup f_Amount_le = some ⟨oc23, od23, .func (PySem.W.fnOf "__le__" "Amount.__le__" (defArgs s_Amount_le) (defBody s_Amount_le) (defScope s_Amount_le) .none kV23 dc23 pm23 an23 cd23 ct23), sl23⟩)
    (c_Amount_le : PySem.W.codeIn K cd23 "Amount.__le__" = true)
    (k_Amount_le : PySem.W.keepIn K (.ref f_Amount_le) = true)
    (fn_Amount_le : PySem.W.isFn K (.ref f_Amount_le) = true)
    (a_Amount_lt : PySem.W.findIn K (.ref C_Amount) "__lt__" = some (some (.ref f_Amount_lt)))
    (l_Amount_lt : K.lookup f_Amount_lt = some ⟨oc24, od24, .func (PySem.W.fnOf "__lt__" "Amount.__lt__" (defArgs s_Amount_lt) (defBody s_Amount_lt) (defScope s_Amount_lt) .none kV24 dc24 pm24 an24 cd24 ct24), sl24⟩)
    (c_Amount_lt : PySem.W.codeIn K cd24 "Amount.__lt__" = true)
    (k_Amount_lt : PySem.W.keepIn K (.ref f_Amount_lt) = true)
    (fn_Amount_lt : PySem.W.isFn K (.ref f_Amount_lt) = true)
    (a__law_signs_right : PySem.W.nsIn K mainGlobals "_law_signs_right" = some (some (.ref f__law_signs_right)))
    (l__law_signs_right : K.lookup f__law_signs_right = some ⟨oc25, od25, .func (PySem.W.fnOf "_law_signs_right" "_law_signs_right" (defArgs s__law_signs_right) (defBody s__law_signs_right) (defScope s__law_signs_right) .none kV25 dc25 pm25 an25 cd25 ct25), sl25⟩)
    (c__law_signs_right : PySem.W.codeIn K cd25 "_law_signs_right" = true)
    (k__law_signs_right : PySem.W.keepIn K (.ref f__law_signs_right) = true)
    (a__law_total_right : PySem.W.nsIn K mainGlobals "_law_total_right" = some (some (.ref f__law_total_right)))
    (l__law_total_right : K.lookup f__law_total_right = some ⟨oc26, od26, .func (PySem.W.fnOf "_law_total_right" "_law_total_right" (defArgs s__law_total_right) (defBody s__law_total_right) (defScope s__law_total_right) .none kV26 dc26 pm26 an26 cd26 ct26), sl26⟩)
    (c__law_total_right : PySem.W.codeIn K cd26 "_law_total_right" = true)
    (k__law_total_right : PySem.W.keepIn K (.ref f__law_total_right) = true)
    (a_law : PySem.W.nsIn K mainGlobals "law" = some (some (.ref f_law)))
    (l_law : K.lookup f_law = some ⟨oc27, od27, .func (PySem.W.fnOf "law" "law" (defArgs s_law) (defBody s_law) (defScope s_law) .none kV27 dc27 pm27 an27 cd27 ct27), sl27⟩)
    (c_law : PySem.W.codeIn K cd27 "law" = true)
    (k_law : PySem.W.keepIn K (.ref f_law) = true)
    (a_BadAmount_init : PySem.W.findIn K (.ref C_BadAmount) "__init__" = some (some (.ref f_BadAmount_init)))
    (l_BadAmount_init : K.lookup f_BadAmount_init = some ⟨oc28, od28, .func (PySem.W.fnOf "__init__" "BadAmount.__init__" (defArgs s_BadAmount_init) (defBody s_BadAmount_init) (defScope s_BadAmount_init) .none kV28 dc28 pm28 an28 cd28 ct28), sl28⟩)
    (c_BadAmount_init : PySem.W.codeIn K cd28 "BadAmount.__init__" = true)
    (k_BadAmount_init : PySem.W.keepIn K (.ref f_BadAmount_init) = true)
    (n_abs : PySem.W.nsIn K mainGlobals "abs" = some none)
    (n_bool : PySem.W.nsIn K mainGlobals "bool" = some none)
    (n_dict : PySem.W.nsIn K mainGlobals "dict" = some none)
    (n_int : PySem.W.nsIn K mainGlobals "int" = some none)
    (n_isinstance : PySem.W.nsIn K mainGlobals "isinstance" = some none)
    (n_len : PySem.W.nsIn K mainGlobals "len" = some none)
    (n_list : PySem.W.nsIn K mainGlobals "list" = some none)
    (n_range : PySem.W.nsIn K mainGlobals "range" = some none)
    (n_repr : PySem.W.nsIn K mainGlobals "repr" = some none)
    (n_str : PySem.W.nsIn K mainGlobals "str" = some none)
    (n_tuple : PySem.W.nsIn K mainGlobals "tuple" = some none)
    (h1_BadAmount : (PySem.W.clsIn K C_BadAmount).isSome = true)
    (h2_BadAmount : PySem.W.findIn K (.ref C_BadAmount) "__getattribute__" = some (some (.builtin "BaseException.__getattribute__")))
    (h3_BadAmount : PySem.W.findIn K (.ref C_BadAmount) "__getattr__" = some none)
    (h4_BadAmount : PySem.W.subIn K (.ref C_BadAmount) (.type "BaseException") = some true)
    (h5_BadAmount : PySem.W.findIn K (.ref C_BadAmount) "__class__" = some (some (.builtin "object.__class__")))
    (h6_BadAmount : PySem.W.mroIn K C_BadAmount (.type "object") = some true)
    (h7_BadAmount : PySem.W.typeIn K (.ref C_BadAmount) = some (.type "type"))
    (h1_NoDivisor : (PySem.W.clsIn K C_NoDivisor).isSome = true)
    (h2_NoDivisor : PySem.W.findIn K (.ref C_NoDivisor) "__getattribute__" = some (some (.builtin "BaseException.__getattribute__")))
    (h3_NoDivisor : PySem.W.findIn K (.ref C_NoDivisor) "__getattr__" = some none)
    (h4_NoDivisor : PySem.W.subIn K (.ref C_NoDivisor) (.type "BaseException") = some true)
    (h5_NoDivisor : PySem.W.findIn K (.ref C_NoDivisor) "__class__" = some (some (.builtin "object.__class__")))
    (h6_NoDivisor : PySem.W.mroIn K C_NoDivisor (.type "object") = some true)
    (h7_NoDivisor : PySem.W.typeIn K (.ref C_NoDivisor) = some (.type "type"))
    (x1_BadAmount : K.lookup C_BadAmount = some (excClassObj nm0 q0 C_BadAmount N0 bs0 bm0 true sn0 sub0 ab0 col0 dd0 m00 m10 m20 m30 m50 "ValueError.__new__"))
    (x2_BadAmount : PySem.HandSPX.refsVE bm0 = true)
    (x3_BadAmount : PySem.W.findIn K (.ref C_BadAmount) "__setattr__" = some (some (.builtin "object.__setattr__")))
    (x4_BadAmount : PySem.W.keepIn K (.ref C_BadAmount) = true)
    (x5_BadAmount : PySem.W.hasDictIn K C_BadAmount = true)
    (x6_BadAmount : PySem.W.typeIn K (.ref f_BadAmount_init) = some (.type "function"))
    (no_BadAmount_value : PySem.W.findIn K (.ref C_BadAmount) "value" = some none)
    (c1_Amount : PySem.W.plainGet K C_Amount Str.empty = true)
    (c2_Amount : PySem.W.hasDictIn K C_Amount = true)
    (c3_Amount : PySem.W.plainOver K C_Amount = true)
    (c4_Amount : PySem.W.findIn K (.ref C_Amount) "__setattr__" = some (some (.builtin "object.__setattr__")))
    (c5_Amount : PySem.W.findIn K (.ref C_Amount) "__class__" = some (some (.builtin "object.__class__")))
    (c6_Amount : PySem.W.mroIn K C_Amount (.type "object") = some true)
    (c7_Amount : (PySem.W.clsIn K C_Amount).isSome = true)
    (c8_Amount : PySem.W.typeIn K (.ref C_Amount) = some (.type "type"))
    (c9_Amount : PySem.W.selfFirst K C_Amount = true)
    (ca_Amount : noBase K C_Amount = true)
    (al_is_whole_names : PySem.W.nsIn K mainGlobals "is_whole_names" = some (some (.ref f_is_whole)))
    (xi_NoDivisor : PySem.W.excIn K C_NoDivisor [.type "ValueError", .type "Exception", .type "BaseException", .type "object"] "ValueError.__new__" = true)
    (kp_NoDivisor : PySem.W.keepIn K (.ref C_NoDivisor) = true)
    (mk1_Amount : PySem.W.makesIn K C_Amount = true)
    (mk2_Amount : PySem.W.keepIn K (.ref C_Amount) = true)
    (ne_Amount : PySem.W.findIn K (.ref C_Amount) "__ne__" = some (some (.builtin "object.__ne__")))
    (no_Amount_bottom : PySem.W.findIn K (.ref C_Amount) "bottom" = some none)
    (no_Amount_top : PySem.W.findIn K (.ref C_Amount) "top" = some none)
    (rn_Amount_add : PySem.W.findIn K (.ref C_Amount) (dunderR "add") = some (some (.ref g_Amount_add)))
    (rd1_Amount : PySem.W.readsIn K C_Amount (.type "type") = true)
    (rd2_Amount : PySem.W.specialIn K (.ref C_Amount) "__getattribute__" = some (some (.builtin "type.__getattribute__")))
    (s1 : PySem.W.specialIn K (.builtin "object.__class__") "__get__" = some (some (.builtin "getset_descriptor.__get__")))
    (s2 : PySem.W.takesIn K (.builtin "object.__class__") = some true) :
    ∃ fd : FuncData, (∀ (s : Shared) (u : Value), BindsTo s fd ⟨[u], []⟩ [("_law_script", u)]) ∧ ∀ base : Heap, K.In base → base.Ns mainGlobals mg → FnG P w K mg base 8 fa fd ["_law_script"] (spLaw K) := by
  have e : f_law = fa := by
    have z := (PySem.W.mg_of X G a_law).symm.trans hfa
    cases z
    rfl
  subst e
  have T : Txt K mg { f_is_whole := f_is_whole, d_is_whole := (PySem.W.fnOf "is_whole" "is_whole" (defArgs s_is_whole) (defBody s_is_whole) (defScope s_is_whole) .none kV0 dc0 pm0 an0 cd0 ct0), f_Amount_is_number := f_Amount_is_number, d_Amount_is_number := (PySem.W.fnOf "is_number" "Amount.is_number" (defArgs s_Amount_is_number) (defBody s_Amount_is_number) (defScope s_Amount_is_number) .none kV1 dc1 pm1 an1 cd1 ct1), f_halves_of := f_halves_of, d_halves_of := (PySem.W.fnOf "halves_of" "halves_of" (defArgs s_halves_of) (defBody s_halves_of) (defScope s_halves_of) .none kV2 dc2 pm2 an2 cd2 ct2), f_Amount_eq := f_Amount_eq, d_Amount_eq := (PySem.W.fnOf "__eq__" "Amount.__eq__" (defArgs s_Amount_eq) (defBody s_Amount_eq) (defScope s_Amount_eq) .none kV3 dc3 pm3 an3 cd3 ct3), f_common_divisor := f_common_divisor, d_common_divisor := (PySem.W.fnOf "common_divisor" "common_divisor" (defArgs s_common_divisor) (defBody s_common_divisor) (defScope s_common_divisor) .none kV4 dc4 pm4 an4 cd4 ct4), f_Amount_init := f_Amount_init, d_Amount_init := (PySem.W.fnOf "__init__" "Amount.__init__" (defArgs s_Amount_init) (defBody s_Amount_init) (defScope s_Amount_init) (.ref T5) kV5 dc5 pm5 an5 cd5 ct5), f_Amount_add := f_Amount_add, d_Amount_add := (PySem.W.fnOf "__add__" "Amount.__add__" (defArgs s_Amount_add) (defBody s_Amount_add) (defScope s_Amount_add) .none kV6 dc6 pm6 an6 cd6 ct6), f_Amount_total := f_Amount_total, d_Amount_total := (PySem.W.fnOf "total" "Amount.total" (defArgs s_Amount_total) (defBody s_Amount_total) (defScope s_Amount_total) .none kV7 dc7 pm7 an7 cd7 ct7), f_Amount_bool := f_Amount_bool, d_Amount_bool := (PySem.W.fnOf "__bool__" "Amount.__bool__" (defArgs s_Amount_bool) (defBody s_Amount_bool) (defScope s_Amount_bool) .none kV8 dc8 pm8 an8 cd8 ct8), f_Amount_is_whole := f_Amount_is_whole, d_Amount_is_whole := (PySem.W.fnOf "is_whole" "Amount.is_whole" (defArgs s_Amount_is_whole) (defBody s_Amount_is_whole) (defScope s_Amount_is_whole) .none kV9 dc9 pm9 an9 cd9 ct9), f_Amount_of := f_Amount_of, d_Amount_of := (PySem.W.fnOf "of" "Amount.of" (defArgs s_Amount_of) (defBody s_Amount_of) (defScope s_Amount_of) .none kV10 dc10 pm10 an10 cd10 ct10), f_Amount_str := f_Amount_str, d_Amount_str := (PySem.W.fnOf "__str__" "Amount.__str__" (defArgs s_Amount_str) (defBody s_Amount_str) (defScope s_Amount_str) .none kV11 dc11 pm11 an11 cd11 ct11), f__law_dict := f__law_dict, d__law_dict := (PySem.W.fnOf "_law_dict" "_law_dict" (defArgs s__law_dict) (defBody s__law_dict) (defScope s__law_dict) .none kV12 dc12 pm12 an12 cd12 ct12), f__law_alone_right := f__law_alone_right, d__law_alone_right := (PySem.W.fnOf "_law_alone_right" "_law_alone_right" (defArgs s__law_alone_right) (defBody s__law_alone_right) (defScope s__law_alone_right) .none kV13 dc13 pm13 an13 cd13 ct13), f__law_draw := f__law_draw, d__law_draw := (PySem.W.fnOf "_law_draw" "_law_draw" (defArgs s__law_draw) (defBody s__law_draw) (defScope s__law_draw) .none kV14 dc14 pm14 an14 cd14 ct14), f__law_lowest := f__law_lowest, d__law_lowest := (PySem.W.fnOf "_law_lowest" "_law_lowest" (defArgs s__law_lowest) (defBody s__law_lowest) (defScope s__law_lowest) .none kV15 dc15 pm15 an15 cd15 ct15), f__law_pick := f__law_pick, d__law_pick := (PySem.W.fnOf "_law_pick" "_law_pick" (defArgs s__law_pick) (defBody s__law_pick) (defScope s__law_pick) .none kV16 dc16 pm16 an16 cd16 ct16), f__law_pair := f__law_pair, d__law_pair := (PySem.W.fnOf "_law_pair" "_law_pair" (defArgs s__law_pair) (defBody s__law_pair) (defScope s__law_pair) .none kV17 dc17 pm17 an17 cd17 ct17), f__law_near := f__law_near, d__law_near := (PySem.W.fnOf "_law_near" "_law_near" (defArgs s__law_near) (defBody s__law_near) (defScope s__law_near) .none kV18 dc18 pm18 an18 cd18 ct18), f__law_number := f__law_number, d__law_number := (PySem.W.fnOf "_law_number" "_law_number" (defArgs s__law_number) (defBody s__law_number) (defScope s__law_number) .none kV19 dc19 pm19 an19 cd19 ct19), f__law_pen := f__law_pen, d__law_pen := (PySem.W.fnOf "_law_pen" "_law_pen" (defArgs s__law_pen) (defBody s__law_pen) (defScope s__law_pen) .none kV20 dc20 pm20 an20 cd20 ct20), f_Amount_ge := f_Amount_ge, d_Amount_ge := (PySem.W.fnOf "__ge__" "Amount.__ge__" (defArgs s_Amount_ge) (defBody s_Amount_ge) (defScope s_Amount_ge) .none kV21 dc21 pm21 an21 cd21 ct21), f_Amount_gt := f_Amount_gt, d_Amount_gt := (PySem.W.fnOf "__gt__" "Amount.__gt__" (defArgs s_Amount_gt) (defBody s_Amount_gt) (defScope s_Amount_gt) .none kV22 dc22 pm22 an22 cd22 ct22), f_Amount_le := f_Amount_le, d_Amount_le := (PySem.W.fnOf "__le__" "Amount.__le__" (defArgs s_Amount_le) (defBody s_Amount_le) (defScope s_Amount_le) .none kV23 dc23 pm23 an23 cd23 ct23), f_Amount_lt := f_Amount_lt, d_Amount_lt := (PySem.W.fnOf "__lt__" "Amount.__lt__" (defArgs s_Amount_lt) (defBody s_Amount_lt) (defScope s_Amount_lt) .none kV24 dc24 pm24 an24 cd24 ct24), f__law_signs_right := f__law_signs_right, d__law_signs_right := (PySem.W.fnOf "_law_signs_right" "_law_signs_right" (defArgs s__law_signs_right) (defBody s__law_signs_right) (defScope s__law_signs_right) .none kV25 dc25 pm25 an25 cd25 ct25), f__law_total_right := f__law_total_right, d__law_total_right := (PySem.W.fnOf "_law_total_right" "_law_total_right" (defArgs s__law_total_right) (defBody s__law_total_right) (defScope s__law_total_right) .none kV26 dc26 pm26 an26 cd26 ct26), f_law := f_law, d_law := (PySem.W.fnOf "law" "law" (defArgs s_law) (defBody s_law) (defScope s_law) .none kV27 dc27 pm27 an27 cd27 ct27), f_BadAmount_init := f_BadAmount_init, d_BadAmount_init := (PySem.W.fnOf "__init__" "BadAmount.__init__" (defArgs s_BadAmount_init) (defBody s_BadAmount_init) (defScope s_BadAmount_init) .none kV28 dc28 pm28 an28 cd28 ct28), C_BadAmount := C_BadAmount, C_NoDivisor := C_NoDivisor, C_Amount := C_Amount, p_Amount_is_number := p_Amount_is_number, p_Amount_is_whole := p_Amount_is_whole, p_Amount_of := p_Amount_of, p_Amount_total := p_Amount_total } :=
    { F_is_whole := fun_mk (st := s_is_whole) l_is_whole c_is_whole k_is_whole,
      F_Amount_is_number := fun_mk (st := s_Amount_is_number) l_Amount_is_number c_Amount_is_number k_Amount_is_number,
      F_halves_of := fun_mk (st := s_halves_of) l_halves_of c_halves_of k_halves_of,
      F_Amount_eq := fun_mk (st := s_Amount_eq) l_Amount_eq c_Amount_eq k_Amount_eq,
      F_common_divisor := fun_mk (st := s_common_divisor) l_common_divisor c_common_divisor k_common_divisor,
      F_Amount_init := funD_mk (st := s_Amount_init) l_Amount_init c_Amount_init k_Amount_init dl_Amount_init (by simp) (.cons ⟨_, rfl⟩ .nil),
      F_Amount_add := fun_mk (st := s_Amount_add) l_Amount_add c_Amount_add k_Amount_add,
      F_Amount_total := fun_mk (st := s_Amount_total) l_Amount_total c_Amount_total k_Amount_total,
      F_Amount_bool := fun_mk (st := s_Amount_bool) l_Amount_bool c_Amount_bool k_Amount_bool,
      F_Amount_is_whole := fun_mk (st := s_Amount_is_whole) l_Amount_is_whole c_Amount_is_whole k_Amount_is_whole,
      F_Amount_of := fun_mk (st := s_Amount_of) l_Amount_of c_Amount_of k_Amount_of,
      F_Amount_str := fun_mk (st := s_Amount_str) l_Amount_str c_Amount_str k_Amount_str,
      F__law_dict := fun_mk (st := s__law_dict) l__law_dict c__law_dict k__law_dict,
      F__law_alone_right := fun_mk (st := s__law_alone_right) l__law_alone_right c__law_alone_right k__law_alone_right,
      F__law_draw := fun_mk (st := s__law_draw) l__law_draw c__law_draw k__law_draw,
      F__law_lowest := fun_mk (st := s__law_lowest) l__law_lowest c__law_lowest k__law_lowest,
      F__law_pick := fun_mk (st := s__law_pick) l__law_pick c__law_pick k__law_pick,
      F__law_pair := fun_mk (st := s__law_pair) l__law_pair c__law_pair k__law_pair,
      F__law_near := fun_mk (st := s__law_near) l__law_near c__law_near k__law_near,
      F__law_number := fun_mk (st := s__law_number) l__law_number c__law_number k__law_number,
      F__law_pen := fun_mk (st := s__law_pen) l__law_pen c__law_pen k__law_pen,
      F_Amount_ge := fun_mk (st := s_Amount_ge) l_Amount_ge c_Amount_ge k_Amount_ge,
      F_Amount_gt := fun_mk (st := s_Amount_gt) l_Amount_gt c_Amount_gt k_Amount_gt,
      F_Amount_le := fun_mk (st := s_Amount_le) l_Amount_le c_Amount_le k_Amount_le,
      F_Amount_lt := fun_mk (st := s_Amount_lt) l_Amount_lt c_Amount_lt k_Amount_lt,
      F__law_signs_right := fun_mk (st := s__law_signs_right) l__law_signs_right c__law_signs_right k__law_signs_right,
      F__law_total_right := fun_mk (st := s__law_total_right) l__law_total_right c__law_total_right k__law_total_right,
      F_law := fun_mk (st := s_law) l_law c_law k_law,
      F_BadAmount_init := fun_mk (st := s_BadAmount_init) l_BadAmount_init c_BadAmount_init k_BadAmount_init,
      m_is_whole := PySem.W.mg_of X G a_is_whole,
      m_halves_of := PySem.W.mg_of X G a_halves_of,
      m_common_divisor := PySem.W.mg_of X G a_common_divisor,
      m__law_dict := PySem.W.mg_of X G a__law_dict,
      m__law_alone_right := PySem.W.mg_of X G a__law_alone_right,
      m__law_draw := PySem.W.mg_of X G a__law_draw,
      m__law_lowest := PySem.W.mg_of X G a__law_lowest,
      m__law_pick := PySem.W.mg_of X G a__law_pick,
      m__law_pair := PySem.W.mg_of X G a__law_pair,
      m__law_near := PySem.W.mg_of X G a__law_near,
      m__law_number := PySem.W.mg_of X G a__law_number,
      m__law_pen := PySem.W.mg_of X G a__law_pen,
      m__law_signs_right := PySem.W.mg_of X G a__law_signs_right,
      m__law_total_right := PySem.W.mg_of X G a__law_total_right,
      m_law := PySem.W.mg_of X G a_law,
      g_Amount := PySem.W.mg_of X G a_Amount,
      cl_Amount := ⟨⟨c1_Amount, c2_Amount, c3_Amount, c4_Amount⟩, c5_Amount, s1, s2, c6_Amount, c7_Amount, c8_Amount, c9_Amount, ca_Amount⟩,
      m_is_whole_names := PySem.W.mg_of X G al_is_whole_names,
      xi_NoDivisor := xi_NoDivisor,
      kp_NoDivisor := kp_NoDivisor,
      xb_NoDivisor := h4_NoDivisor,
      xt_NoDivisor := h7_NoDivisor,
      mk_Amount := ⟨mk1_Amount, a_Amount_init, fn_Amount_init, mk2_Amount⟩,
      ne_Amount := ne_Amount,
      no_Amount_bottom := no_Amount_bottom,
      no_Amount_top := no_Amount_top,
      oc_Amount_add := ⟨c9_Amount, a_Amount_add, fn_Amount_add⟩,
      rn_Amount_add := ⟨_, rn_Amount_add, .inr ⟨_, rfl⟩⟩,
      pr_Amount_is_whole := ⟨a_Amount_is_whole, g_Amount_is_whole, t_Amount_is_whole, ⟨_, r_Amount_is_whole⟩⟩,
      rd_Amount := ⟨rd1_Amount, rd2_Amount⟩,
      sm_Amount_is_number := ⟨a_Amount_is_number, ⟨_, r_Amount_is_number⟩, k_Amount_is_number⟩,
      sm_Amount_of := ⟨a_Amount_of, ⟨_, r_Amount_of⟩, k_Amount_of⟩,
      sm_Amount_total := ⟨a_Amount_total, ⟨_, r_Amount_total⟩, k_Amount_total⟩,
      sp_Amount_bool := a_Amount_bool,
      fn_Amount_bool := fn_Amount_bool,
      sp_Amount_eq := a_Amount_eq,
      fn_Amount_eq := fn_Amount_eq,
      sp_Amount_ge := a_Amount_ge,
      fn_Amount_ge := fn_Amount_ge,
      sp_Amount_gt := a_Amount_gt,
      fn_Amount_gt := fn_Amount_gt,
      sp_Amount_le := a_Amount_le,
      fn_Amount_le := fn_Amount_le,
      sp_Amount_lt := a_Amount_lt,
      fn_Amount_lt := fn_Amount_lt,
      sp_Amount_str := a_Amount_str,
      fn_Amount_str := fn_Amount_str,
      n_abs := PySem.W.mg_none_of X G n_abs,
      n_bool := PySem.W.mg_none_of X G n_bool,
      n_dict := PySem.W.mg_none_of X G n_dict,
      n_int := PySem.W.mg_none_of X G n_int,
      n_isinstance := PySem.W.mg_none_of X G n_isinstance,
      n_len := PySem.W.mg_none_of X G n_len,
      n_list := PySem.W.mg_none_of X G n_list,
      n_range := PySem.W.mg_none_of X G n_range,
      n_repr := PySem.W.mg_none_of X G n_repr,
      n_str := PySem.W.mg_none_of X G n_str,
      n_tuple := PySem.W.mg_none_of X G n_tuple,
      g_BadAmount := PySem.W.mg_of X G a_BadAmount,
      x_BadAmount := ⟨h1_BadAmount, h2_BadAmount, h3_BadAmount, h4_BadAmount, h5_BadAmount, s1, s2, h6_BadAmount⟩,
      g_NoDivisor := PySem.W.mg_of X G a_NoDivisor,
      x_NoDivisor := ⟨h1_NoDivisor, h2_NoDivisor, h3_NoDivisor, h4_NoDivisor, h5_NoDivisor, s1, s2, h6_NoDivisor⟩,
      o_BadAmount := ⟨⟨_, _, _, _, _, _, _, _, _, _, _, _, _, _, _, x1_BadAmount, x2_BadAmount⟩, x3_BadAmount, h4_BadAmount, h7_BadAmount, x4_BadAmount⟩,
      xf_BadAmount := ⟨h2_BadAmount, h3_BadAmount, h4_BadAmount, x5_BadAmount⟩,
      i_BadAmount := a_BadAmount_init,
      t_BadAmount := x6_BadAmount,
      no_BadAmount_value := no_BadAmount_value }
  exact ⟨_, fun s u => .of_eq rfl, fun base _ _ => ok_law (P := P) (w := w) T⟩
end HS
open PySem PySem.W PyProof.Rows
set_option maxRecDepth 100000 in
set_option maxHeartbeats 0 in
theorem PySem.Challenge.cw_holeshift_k20_amounts_compared_holds : PySem.Challenge.rw_holeshift_k20_amounts_compared.Holds := by
  w_on; o_law; k_head; (case hw => w_witness2)
  k_fill
  refine HS.walk_G (l := PySem.Challenge.rw_holeshift_k20_amounts_compared) (n := 63) (k := 8) (x := "_law_script") (sp := fun K => HS.spLaw K) rfl (by decide) rfl (by decide) (fun w h Y => PySem.W.kIn_of Y) ?F ?S
  case F =>
    intro w mg fa h KX G hmg
    refine' HS.all_mk KX G hmg ?a_BadAmount ?a_NoDivisor ?a_Amount ?a_is_whole ?l_is_whole ?c_is_whole ?k_is_whole ?a_Amount_is_number ?r_Amount_is_number ?l_Amount_is_number ?c_Amount_is_number ?k_Amount_is_number ?a_halves_of ?l_halves_of ?c_halves_of ?k_halves_of ?a_Amount_eq ?l_Amount_eq ?c_Amount_eq ?k_Amount_eq ?fn_Amount_eq ?a_common_divisor ?l_common_divisor ?c_common_divisor ?k_common_divisor ?a_Amount_init ?l_Amount_init ?c_Amount_init ?k_Amount_init ?dl_Amount_init ?fn_Amount_init ?a_Amount_add ?l_Amount_add ?c_Amount_add ?k_Amount_add ?fn_Amount_add ?a_Amount_total ?r_Amount_total ?l_Amount_total ?c_Amount_total ?k_Amount_total ?a_Amount_bool ?l_Amount_bool ?c_Amount_bool ?k_Amount_bool ?fn_Amount_bool ?a_Amount_is_whole ?g_Amount_is_whole ?t_Amount_is_whole ?r_Amount_is_whole ?l_Amount_is_whole ?c_Amount_is_whole ?k_Amount_is_whole ?a_Amount_of ?r_Amount_of ?l_Amount_of ?c_Amount_of ?k_Amount_of ?a_Amount_str ?l_Amount_str ?c_Amount_str ?k_Amount_str ?fn_Amount_str ?a__law_dict ?l__law_dict ?c__law_dict ?k__law_dict ?a__law_alone_right ?l__law_alone_right ?c__law_alone_right ?k__law_alone_right ?a__law_draw ?l__law_draw ?c__law_draw ?k__law_draw ?a__law_lowest ?l__law_lowest ?c__law_lowest ?k__law_lowest ?a__law_pick ?l__law_pick ?c__law_pick ?k__law_pick ?a__law_pair ?l__law_pair ?c__law_pair ?k__law_pair ?a__law_near ?l__law_near ?c__law_near ?k__law_near ?a__law_number ?l__law_number ?c__law_number ?k__law_number ?a__law_pen ?l__law_pen ?c__law_pen ?k__law_pen ?a_Amount_ge ?l_Amount_ge ?c_Amount_ge ?k_Amount_ge ?fn_Amount_ge ?a_Amount_gt ?l_Amount_gt ?c_Amount_gt ?k_Amount_gt ?fn_Amount_gt ?a_Amount_le ?l_Amount_le ?c_Amount_le ?k_Amount_le ?fn_Amount_le ?a_Amount_lt ?l_Amount_lt ?c_Amount_lt ?k_Amount_lt ?fn_Amount_lt ?a__law_signs_right ?l__law_signs_right ?c__law_signs_right ?k__law_signs_right ?a__law_total_right ?l__law_total_right ?c__law_total_right ?k__law_total_right ?a_law ?l_law ?c_law ?k_law ?a_BadAmount_init ?l_BadAmount_init ?c_BadAmount_init ?k_BadAmount_init ?n_abs ?n_bool ?n_dict ?n_int ?n_isinstance ?n_len ?n_list ?n_range ?n_repr ?n_str ?n_tuple ?h1_BadAmount ?h2_BadAmount ?h3_BadAmount ?h4_BadAmount ?h5_BadAmount ?h6_BadAmount ?h7_BadAmount ?h1_NoDivisor ?h2_NoDivisor ?h3_NoDivisor ?h4_NoDivisor ?h5_NoDivisor ?h6_NoDivisor ?h7_NoDivisor ?x1_BadAmount ?x2_BadAmount ?x3_BadAmount ?x4_BadAmount ?x5_BadAmount ?x6_BadAmount ?no_BadAmount_value ?c1_Amount ?c2_Amount ?c3_Amount ?c4_Amount ?c5_Amount ?c6_Amount ?c7_Amount ?c8_Amount ?c9_Amount ?ca_Amount ?al_is_whole_names ?xi_NoDivisor ?kp_NoDivisor ?mk1_Amount ?mk2_Amount ?ne_Amount ?no_Amount_bottom ?no_Amount_top ?rn_Amount_add ?rd1_Amount ?rd2_Amount ?s1 ?s2
    case a_BadAmount => first | k_is | rfl
    case a_NoDivisor => first | k_is | rfl
    case a_Amount => first | k_is | rfl
    case a_is_whole => first | k_is | rfl
    case l_is_whole => first | k_is | rfl
    case c_is_whole => first | k_is | rfl
    case k_is_whole => first | k_is | rfl
    case a_Amount_is_number => first | k_is | rfl
    case r_Amount_is_number => first | k_is | rfl
    case l_Amount_is_number => first | k_is | rfl
    case c_Amount_is_number => first | k_is | rfl
    case k_Amount_is_number => first | k_is | rfl
    case a_halves_of => first | k_is | rfl
    case l_halves_of => first | k_is | rfl
    case c_halves_of => first | k_is | rfl
    case k_halves_of => first | k_is | rfl
    case a_Amount_eq => first | k_is | rfl
    case l_Amount_eq => first | k_is | rfl
    case c_Amount_eq => first | k_is | rfl
    case k_Amount_eq => first | k_is | rfl
    case fn_Amount_eq => first | k_is | rfl
    case a_common_divisor => first | k_is | rfl
    case l_common_divisor => first | k_is | rfl
    case c_common_divisor => first | k_is | rfl
    case k_common_divisor => first | k_is | rfl
    case a_Amount_init => first | k_is | rfl
    case l_Amount_init => first | k_is | rfl
    case c_Amount_init => first | k_is | rfl
    case k_Amount_init => first | k_is | rfl
    case dl_Amount_init => first | k_is | rfl
    case fn_Amount_init => first | k_is | rfl
    case a_Amount_add => first | k_is | rfl
    case l_Amount_add => first | k_is | rfl
    case c_Amount_add => first | k_is | rfl
    case k_Amount_add => first | k_is | rfl
    case fn_Amount_add => first | k_is | rfl
    case a_Amount_total => first | k_is | rfl
    case r_Amount_total => first | k_is | rfl
    case l_Amount_total => first | k_is | rfl
    case c_Amount_total => first | k_is | rfl
    case k_Amount_total => first | k_is | rfl
    case a_Amount_bool => first | k_is | rfl
    case l_Amount_bool => first | k_is | rfl
    case c_Amount_bool => first | k_is | rfl
    case k_Amount_bool => first | k_is | rfl
    case fn_Amount_bool => first | k_is | rfl
    case a_Amount_is_whole => first | k_is | rfl
    case g_Amount_is_whole => first | k_is | rfl
    case t_Amount_is_whole => first | k_is | rfl
    case r_Amount_is_whole => first | k_is | rfl
    case l_Amount_is_whole => first | k_is | rfl
    case c_Amount_is_whole => first | k_is | rfl
    case k_Amount_is_whole => first | k_is | rfl
    case a_Amount_of => first | k_is | rfl
    case r_Amount_of => first | k_is | rfl
    case l_Amount_of => first | k_is | rfl
    case c_Amount_of => first | k_is | rfl
    case k_Amount_of => first | k_is | rfl
    case a_Amount_str => first | k_is | rfl
    case l_Amount_str => first | k_is | rfl
    case c_Amount_str => first | k_is | rfl
    case k_Amount_str => first | k_is | rfl
    case fn_Amount_str => first | k_is | rfl
    case a__law_dict => first | k_is | rfl
    case l__law_dict => first | k_is | rfl
    case c__law_dict => first | k_is | rfl
    case k__law_dict => first | k_is | rfl
    case a__law_alone_right => first | k_is | rfl
    case l__law_alone_right => first | k_is | rfl
    case c__law_alone_right => first | k_is | rfl
    case k__law_alone_right => first | k_is | rfl
    case a__law_draw => first | k_is | rfl
    case l__law_draw => first | k_is | rfl
    case c__law_draw => first | k_is | rfl
    case k__law_draw => first | k_is | rfl
    case a__law_lowest => first | k_is | rfl
    case l__law_lowest => first | k_is | rfl
    case c__law_lowest => first | k_is | rfl
    case k__law_lowest => first | k_is | rfl
    case a__law_pick => first | k_is | rfl
    case l__law_pick => first | k_is | rfl
    case c__law_pick => first | k_is | rfl
    case k__law_pick => first | k_is | rfl
    case a__law_pair => first | k_is | rfl
    case l__law_pair => first | k_is | rfl
    case c__law_pair => first | k_is | rfl
    case k__law_pair => first | k_is | rfl
    case a__law_near => first | k_is | rfl
    case l__law_near => first | k_is | rfl
    case c__law_near => first | k_is | rfl
    case k__law_near => first | k_is | rfl
    case a__law_number => first | k_is | rfl
    case l__law_number => first | k_is | rfl
    case c__law_number => first | k_is | rfl
    case k__law_number => first | k_is | rfl
    case a__law_pen => first | k_is | rfl
    case l__law_pen => first | k_is | rfl
    case c__law_pen => first | k_is | rfl
    case k__law_pen => first | k_is | rfl
    case a_Amount_ge => first | k_is | rfl
    case l_Amount_ge => first | k_is | rfl
    case c_Amount_ge => first | k_is | rfl
    case k_Amount_ge => first | k_is | rfl
    case fn_Amount_ge => first | k_is | rfl
    case a_Amount_gt => first | k_is | rfl
    case l_Amount_gt => first | k_is | rfl
    case c_Amount_gt => first | k_is | rfl
    case k_Amount_gt => first | k_is | rfl
    case fn_Amount_gt => first | k_is | rfl
    case a_Amount_le => first | k_is | rfl
    case l_Amount_le => first | k_is | rfl
    case c_Amount_le => first | k_is | rfl
    case k_Amount_le => first | k_is | rfl
    case fn_Amount_le => first | k_is | rfl
    case a_Amount_lt => first | k_is | rfl
    case l_Amount_lt => first | k_is | rfl
    case c_Amount_lt => first | k_is | rfl
    case k_Amount_lt => first | k_is | rfl
    case fn_Amount_lt => first | k_is | rfl
    case a__law_signs_right => first | k_is | rfl
    case l__law_signs_right => first | k_is | rfl
    case c__law_signs_right => first | k_is | rfl
    case k__law_signs_right => first | k_is | rfl
    case a__law_total_right => first | k_is | rfl
    case l__law_total_right => first | k_is | rfl
    case c__law_total_right => first | k_is | rfl
    case k__law_total_right => first | k_is | rfl
    case a_law => first | k_is | rfl
    case l_law => first | k_is | rfl
    case c_law => first | k_is | rfl
    case k_law => first | k_is | rfl
    case a_BadAmount_init => first | k_is | rfl
    case l_BadAmount_init => first | k_is | rfl
    case c_BadAmount_init => first | k_is | rfl
    case k_BadAmount_init => first | k_is | rfl
    case n_abs => first | k_is | rfl
    case n_bool => first | k_is | rfl
    case n_dict => first | k_is | rfl
    case n_int => first | k_is | rfl
    case n_isinstance => first | k_is | rfl
    case n_len => first | k_is | rfl
    case n_list => first | k_is | rfl
    case n_range => first | k_is | rfl
    case n_repr => first | k_is | rfl
    case n_str => first | k_is | rfl
    case n_tuple => first | k_is | rfl
    case h1_BadAmount => first | k_is | rfl
    case h2_BadAmount => first | k_is | rfl
    case h3_BadAmount => first | k_is | rfl
    case h4_BadAmount => first | k_is | rfl
    case h5_BadAmount => first | k_is | rfl
    case h6_BadAmount => first | k_is | rfl
    case h7_BadAmount => first | k_is | rfl
    case h1_NoDivisor => first | k_is | rfl
    case h2_NoDivisor => first | k_is | rfl
    case h3_NoDivisor => first | k_is | rfl
    case h4_NoDivisor => first | k_is | rfl
    case h5_NoDivisor => first | k_is | rfl
    case h6_NoDivisor => first | k_is | rfl
    case h7_NoDivisor => first | k_is | rfl
    case x1_BadAmount => first | k_is | rfl
    case x2_BadAmount => decide +kernel
    case x3_BadAmount => first | k_is | rfl
    case x4_BadAmount => first | k_is | rfl
    case x5_BadAmount => first | k_is | rfl
    case x6_BadAmount => first | k_is | rfl
    case no_BadAmount_value => first | k_is | rfl
    case c1_Amount => first | k_is | rfl
    case c2_Amount => first | k_is | rfl
    case c3_Amount => first | k_is | rfl
    case c4_Amount => first | k_is | rfl
    case c5_Amount => first | k_is | rfl
    case c6_Amount => first | k_is | rfl
    case c7_Amount => first | k_is | rfl
    case c8_Amount => first | k_is | rfl
    case c9_Amount => first | k_is | rfl
    case ca_Amount => first | k_is | rfl
    case al_is_whole_names => first | k_is | rfl
    case xi_NoDivisor => first | k_exc | k_is | kx_is
    case kp_NoDivisor => first | k_is | rfl
    case mk1_Amount => first | k_is | rfl
    case mk2_Amount => first | k_is | rfl
    case ne_Amount => first | k_is | rfl
    case no_Amount_bottom => first | k_is | rfl
    case no_Amount_top => first | k_is | rfl
    case rn_Amount_add => first | k_is | rfl
    case rd1_Amount => first | k_is | rfl
    case rd2_Amount => first | k_is | rfl
    case s1 => first | k_is | rfl
    case s2 => first | k_is | rfl
  case S =>
    intro K H a ns hl hb E
    exact ⟨a, ns, rfl, E.scr, hl, fun z m => HS.Sz.of_bits (hb z m), fun _ => rfl⟩

