import PyProof.Rows.All
import Wide.All
import OpenK.AllK
import Wide.FinOn
import HandS.Words
import HandS.Lambda
import KE.KNest
import HandS.Head0
import HandS.Head1
import HandS.Head2
import HandS.HeadHook1
import HandS.HeadHook2
import HandS.HeadHook3
import HandS.HeadHook4
import HandS.ForMost
import HandS.Exc
import HandS.ExcInit
import HandS.ExcIs
import HandS.IsInst
import HandS.WordsExc
import HandS.Wide
import KE.KStar
import PyProof.ReprRoads
import HandS.ExcField
import KE.KExcIs
import HandS.Dict
import HandS.EndBits
import HandS.Walk
import HandS.Flow
import HandS.Codes
import HandS.Iter
import HandS.Comp
import PyProof.FitsInt
import HandS.Text
import HandS.Property
import HandS.ClsMeth
import HandS.Defaults
import KE.KOpsOwn
import OpenK.KOps
import HandS.ExcOwn
import HandS.ExcCtx
import KE.KFmtOwn
import HandS.NamedTupSort
import HandS.Records
import HandS.FStr
import KE.KCallOwn
import HandS.WordsDict
import HandS.Star
import HandS.SetFor
import HandS.Style
import HandS.ExcValue
import HandS.Strs
import PyProof.Rows.SetFrom
import HandS.Nested
import OpenK.KMeth
import HandS.DictComp
import HandS.More
import HandS.ListItems
import HandS.RaiseMore
import KE.KEqNest
import HandS.Conv
import KE.KDictSum
import KE.KDictList
import PyProof.TupleOfStr
import PyProof.Rows.StrOr
import PyProof.EqAt
import PyProof.EqKinds
import HandS.SetBool
import HandS.DictTup
import KE.KeyNested
import HandS.TupLen
import KE.KDictCopyH
import KE.KDictKeyed
import PyProof.Rows.SortShellAny
import PyProof.StrBlock2
import KE.KRevSl
import HandS.Finally
import KE.KEqDict
import HandS.OwnEq
import PyProof.P3Eq
import KE.GoesMore
import PyProof.RulesMatch
import KE.KUnpack
import PyProof.ListStr
import HandS.TupAny
import KE.KDictZip
import PyProof.FString5
import HandS.Base
import PyProof.GenQ
import HandS.GenList
import HandS.Replace
import PyProof.NeKinds
import HandS.RaiseFrom
import HandS.ExcInitHot
import HandS.Zip
import PySem.Challenge.RW_holeshift_k04_sums_of_gaps_and_wrong_par
set_option Elab.async false
set_option linter.all false
set_option maxRecDepth 100000
set_option maxHeartbeats 4000000
universe u v
open PySem.W (Frag findIn keepIn nsIn isFn subIn typeIn mg_of mroIn kitOne fnOf clsIn)
theorem aN {p:Prop} [Decidable p] (h:decide p=true):p:=of_decide_eq_true h
theorem fZ {a b:Bool} (h:(a&&b)=true):a=true∧b=true:=Bool.and_eq_true_iff.mp h
theorem eX {α:Type u} {β:Type v} {f:α→β} {l:List α} {b:β} (h:b∈l.map f):∃ a,a∈l∧f a=b:=List.mem_map.mp h
namespace HS
open PySem PySem.Spec PyProof.Rows L2
class Tc where
 file:Str
class MK where
 makers:List Str
abbrev NY (x:Str):Str:=x ++ ".<locals>." ++ "<lambda>"
def Kw [MK] (K:Frag):List (Addr×Str):=MK.makers.filterMap fun x=>(PySem.W.tabIn K x).map fun cp=>(cp.2,NY x)
def iw:List String:=["int", "str", "bool", "list", "tuple", "dict"]
def xr (K:Frag) (C:Addr):Bool:=iw.all fun n=>subIn K (.ref C) (.type n) == some false
def cV [MK] (K:Frag):List (Addr×Addr):=MK.makers.filterMap (PySem.W.tabIn K)
def Bj [MK] (K:Frag):Bool:=(cV K).all fun p=>(K.lookup p.2).isNone
inductive VT where
 |nil
 |node (b:Bool) (l r:VT)
def VT.has:VT→Nat→Bool
 |.nil,_=>false
 |.node b l r,i=>match Nat.beq i 0 with
  |true=>b
  |false=>match Nat.beq (i % 2) 1 with
   |true=>l.has (i / 2)
   |false=>r.has (i / 2 - 1)
def VT.put:Nat→VT→Nat→VT
 |0,t,_=>t
 |k+1,.nil,i=>match Nat.beq i 0 with
  |true=>.node true .nil .nil
  |false=>match Nat.beq (i % 2) 1 with
   |true=>.node false (VT.put k .nil (i / 2)) .nil
   |false=>.node false .nil (VT.put k .nil (i / 2 - 1))
 |k+1,.node b l r,i=>match Nat.beq i 0 with
  |true=>.node true l r
  |false=>match Nat.beq (i % 2) 1 with
   |true=>.node b (VT.put k l (i / 2)) r
   |false=>.node b l (VT.put k r (i / 2 - 1))
def rM (g:Addr→Option Obj):Nat→List Addr→VT→Frag→Frag
 |0,_,_,acc=>acc
 |_+1,[],_,acc=>acc
 |n+1,a::r,t,acc=>HandSHeadRun.frNat a fun a=>match t.has a with
  |true=>rM g n r t acc
  |false=>match g a with
   |none=>rM g n r t acc
   |some ⟨c,d,dt,sl⟩=>rM g n (He.refsD ⟨c,d,dt,sl⟩++r) (t.put 30 a) ((a,⟨c,d,dt,sl⟩)::acc)
theorem oY {g:Addr→Option Obj}:∀ (n:Nat) (l:List Addr) (t:VT) (acc:Frag),(∀ p∈acc,g p.1=some p.2)→∀ p∈rM g n l t acc,g p.1=some p.2
 |0,_,_,_,h=>h
 |_+1,[],_,_,h=>h
 |n+1,a::r,t,acc,h=>by
  unfold rM
  rw [HandSHeadRun.frNat_eq]
  split
  ·exact oY n r t acc h
  ·split
   ·exact oY n r t acc h
   ·rename_i e
    refine oY n _ _ _ fun p hp=>?_
    rcases List.mem_cons.mp hp with rfl |hp
    ·exact e
    ·exact h p hp
def DY (o:Obj):Bool:=match o.data with
 |.cls _=>true
 |.dict _ _=>true
 |_=>false
def Lf (n:Nat) (g:Addr→Option Obj):Frag:=(rM g n [mainGlobals,cStatics] .nil []).filter fun q=>!(q.1 == sysModules) && !He.emptyTab q.2
def kF (n:Nat) (g:Addr→Option Obj):Frag:=((Lf n g).filter fun q=>DY q.2)++(Lf n g).filter fun q=>!DY q.2
theorem yv {n:Nat} {g:Addr→Option Obj} {q:Addr×Obj} (h:q∈kF n g):q∈Lf n g:=by
 unfold kF at h
 rcases List.mem_append.mp h with h |h
 ·exact (List.mem_filter.mp h).1
 ·exact (List.mem_filter.mp h).1
theorem DZ {n:Nat} {h:Heap}:(kF n h.get?).In h:=fun _ _ e=>oY _ _ _ _ (fun _ hp=>by cases hp) _ (List.mem_filter.mp (yv (He.lookup_mem e))).1
def NZ {α β:Type}:List α→(List α→β)→β
 |[],k=>k []
 |a::r,k=>NZ r fun r'=>k (a::r')
theorem ug {α β:Type}:∀ (l:List α) (k:List α→β),NZ l k=k l
 |[],_=>rfl
 |a::r,k=>ug r fun r'=>k (a::r')
theorem CC {n:Nat} {g:Addr→Option Obj}:(kF n g).lookup sysModules=none:=by
 cases e:(kF n g).lookup sysModules with
 |none=>rfl
 |some o=>
  have h:=(List.mem_filter.mp (yv (He.lookup_mem e))).2
  simp at h
abbrev N2:Type:=Option (Str×Str×Arguments×FuncBody×Scope×Addr×List Str×Addr)
def Lg (K:Frag) (a:Addr):N2:=match K.lookup a with
 |some ⟨_,_,.func fd,_⟩=>some (fd.name,fd.qualname,fd.params,fd.body,fd.scope,fd.globals,fd.closure.map (·.1),fd.builtins)
 |_=>none
structure bI where
 at_:Frag→Addr
 name:Str
 qual:Str
 st:Stmt
 cl:List Str
def bI.val (d:bI):N2:=some (d.name,d.qual,defArgs d.st,.stmts (defBody d.st),defScope d.st,mainGlobals,d.cl,builtinsNs)
def bI.ok (K:Frag) (d:bI):Prop:=Lg K (d.at_ K)=d.val
def yw (n:Nat) (fn:List bI) (ex:Frag→Bool) (g:Addr→Option Obj):Bool×List N2:=NZ (kF n g) fun K=>(ex K,fn.map fun d=>Lg K (d.at_ K))
structure v7 (fn:List bI) (ex:Frag→Bool) (h:Heap) (K:Frag):Prop where
 kin:K.In h
 sys:K.lookup sysModules=none
 more:ex K=true
 fns:(fn.map fun d=>Lg K (d.at_ K))=fn.map bI.val
theorem D0 {n:Nat} {fn:List bI} {ex:Frag→Bool} {h:Heap} (e:yw n fn ex h.get? = (true,fn.map bI.val)):v7 fn ex h (kF n h.get?):=
 have e':(ex (kF n h.get?),fn.map fun d=>Lg (kF n h.get?) (d.at_ (kF n h.get?)))=(true,fn.map bI.val):=by
  unfold yw at e
  rw [ug] at e
  exact e
 ⟨DZ,CC,congrArg Prod.fst e',congrArg Prod.snd e'⟩
def D4 (n:Nat) (fn:List bI) (ex:Frag→Bool):PySem.W.Hook where
 α:=Bool×List N2
 obs:=fun s=>yw n fn ex s.heap.get?
 val:=fun _=>(true,fn.map bI.val)
 says:=fun _ h=>∃ K:Frag,v7 fn ex h K
 of:=fun _ _ e=>⟨_,D0 e⟩
 keeps:=fun _ _ _ ⟨K,c⟩ k=>⟨K,⟨Frag.In.keeps c.kin k,c.sys,c.more,c.fns⟩⟩
theorem Ie {n:Nat} {fn:List bI} {ex:Frag→Bool} {s:PySem.W.SharedT}:yw n fn ex (HandSHeadRun.getT s)=(D4 n fn ex).obs s.abs:=by
 have e:HandSHeadRun.getT s=s.abs.heap.get?:=funext (HandSHeadRun.getT_eq s)
 rw [e]
 rfl
theorem v7.def_ {fn:List bI} {ex:Frag→Bool} {h:Heap} {K:Frag} (c:v7 fn ex h K) (i:Nat) {d:bI} (e:fn[i]? = some d:=by rfl):d.ok K:=by
 have e2:(fn.map fun d=>Lg K (d.at_ K))[i]? = (fn.map bI.val)[i]?:=by rw [c.fns]
 rw [List.getElem?_map,List.getElem?_map,e] at e2
 exact Option.some.inj e2
theorem aa {l:List Bool} (h:l.all id=true) (i:Nat) {b:Bool} (e:l[i]? = some b:=by rfl):b=true:=List.all_eq_true.mp h b (List.mem_of_getElem? e)
section
variable (K:Frag)
def fdOf (a:Addr):FuncData:=match K.lookup a with
 |some ⟨_,_,.func fd,_⟩=>fd
 |_=>fnOf "" "" ⟨[],[],none,[],[],none,[]⟩ [] ⟨.function,[],false,false,[]⟩ .none .none .none .none none .none .none
def Lh (C:Addr) (m:Str):Addr:=match PySem.W.findCls K (.ref C) (.type "type") m with
 |some (.get _ (.ref p) _ _)=>p
 |_=>0
def Li (p:Addr) (T:String):Addr:=match PySem.W.recIn K p T with
 |some (.ref f::_)=>f
 |_=>0
def z5 (C:Addr) (m:Str):Addr:=match findIn K (.ref C) m with
 |some (some (.ref a))=>a
 |_=>0
def codeB (a:Addr) (q:Str):Bool:=match K.lookup a with
 |some ⟨_,_,.func fd,_⟩=>PySem.W.codeIn K fd.code q
 |_=>false
def D5 (a:Addr):Bool:=match (fdOf K a).defaults with
 |.none=>true
 |_=>false
def Bk (a:Addr) (dvs:List V):Bool:=He.dflB K (fdOf K a).defaults dvs
def D6 (p f:Addr) (T:String):Bool:=match PySem.W.recIn K p T with
 |some (.ref g::_)=>g == f
 |_=>false
def N3 (C p:Addr) (m:Str):Bool:=match PySem.W.findCls K (.ref C) (.type "type") m with
 |some (.get (.builtin g) (.ref q) .none (.ref D))=>decide (g = "staticmethod.__get__")&&(q == p&&D == C)
 |_=>false
def D7 (C:Addr) (f:Str) (v:V):Bool:=match findIn K (.ref C) f with
 |some (some u)=>He.relB v u&&decide (PySem.W.specialIn K u "__get__" = some none)
 |_=>false
def CD (C:Addr):Bool:=match K.lookup C with
 |some ⟨.type t,_,.cls cd,sl⟩=>(match cd.mro,sl.toList with
  |.ref C'::bm,[_,_,_,_,some (.builtin n),_]=>decide (t = "type")&&(C' == C&&(decide (n = "ValueError.__new__")&&(!cd.hasDel&&(cd.hasDict&&PySem.HandSPX.refsVE bm))))
  |_,_=>false)
 |_=>false
def xu (r:Option (Option Value)):Bool:=match r with
 |some none=>true
 |some (some (.ref _))=>true
 |_=>false
def PZ (x:Str) (v:V):Bool:=match nsIn K mainGlobals x with
 |some (some u)=>He.relB v u
 |_=>false
end
namespace St
noncomputable abbrev N:Value:=.none
noncomputable abbrev T:Value:=.bool true
noncomputable abbrev F:Value:=.bool false
noncomputable abbrev I (i:Int):Value:=.int i 0
noncomputable abbrev S (s:Str) (k:Nat):Value:=.str s k
noncomputable abbrev Y (s:String):Value:=.type s
noncomputable abbrev B (s:String):Value:=.builtin s
noncomputable abbrev R (a:Nat):Value:=.ref a
noncomputable abbrev E (p:Params) (s:Str) (k:Nat) (v:Value):DictEntry:=⟨PyData.keyHash p s,.str s k,v⟩
noncomputable abbrev tU (l:List Value):Obj:={ cls:=.type "tuple",dict:=none,data:=.seq ⟨l⟩ 0,slots:=⟨[]⟩}
noncomputable abbrev cN (l:List Value):Obj:={cls:=.none,dict:=none,data:=.fields ⟨l⟩,slots:=⟨[]⟩}
noncomputable abbrev fL (c:String) (l:List Value):Obj:={cls:=.type c,dict:=none,data:=.fields ⟨l⟩,slots:=⟨[]⟩}
noncomputable abbrev fM (c:String) (d:Nat) (l:List Value):Obj:={cls:=.type c,dict:=some d,data:=.fields ⟨l⟩,slots:=⟨[]⟩}
noncomputable abbrev dI (l:List DictEntry) (n:Nat):Obj:={ cls:=.type "dict",dict:=none,data:=.dict ⟨l⟩ n,slots:=⟨[]⟩}
noncomputable abbrev sL (c:String) (l:List (Option Value)):Obj:={cls:=.type c,dict:=none,data:=.plain,slots:=⟨l⟩}
noncomputable abbrev fD (st:Stmt) (name qual:Str) (glob:Nat) (UC:List (Str×Addr)) (dfl kwd doc mod:Value) (ann:Option Addr) (code ct:Value) (bu:Nat):FuncData:={name:=name,qualname:=qual,params:=defArgs st,body:=.stmts (defBody st),scope:=defScope st,globals:=glob,closure:=UC,defaults:=dfl,kwdefaults:=kwd,doc:=doc,pyModule:=mod,annotations:=ann,code:=code,closureTuple:=ct,builtins:=bu}
noncomputable abbrev fO (d:FuncData):Obj:={ cls:=.type "function",dict:=none,data:=.func d,slots:=⟨[]⟩}
noncomputable abbrev pO (d:FuncData):Obj:={cls:=.none,dict:=none,data:=.func d,slots:=⟨[]⟩}
noncomputable abbrev pF (st:Stmt) (name qual:Str):Obj:=pO (fD st name qual 0 [] N N N N none N N 0)
noncomputable abbrev fN (st:Stmt) (name qual:Str) (dfl kwd doc:Value) (m:Str) (k code:Nat):Obj:=fO (fD st name qual 3 [] dfl kwd doc (S m k) none (R code) N 0)
noncomputable abbrev cO (n:Str) (k:Nat) (q:Str) (k2:Nat) (f:Str) (k3:Nat) (a b c d e:Int) (r:Nat) (t:Value) (i:Int) (r2:Nat) (v1 v2 v3 v4:Value) (j l:Int) (k4:Nat):Obj:=
 fL "code" [S n k,S q k2,S f k3,I a,I b,I c,I d,I e,R r,t,I i,R r2,v1,v2,v3,v4,I j,I l,S f k4]
noncomputable abbrev cL (name:Str) (bases mro:List Value) (ns:Nat) (qual:Str) (subs:List Value) (sl:List (Option Value)):Obj:={ cls:=.type "type",dict:=none,data:=.cls { name:=name,bases:=bases,mro:=mro,ns:=ns,qualname:=qual,hasDict:=true,slotNames:=[],subclasses:=subs,abstract:=false,collection:=none,hasDel:=false},slots:=⟨sl⟩}
noncomputable abbrev t (o:Obj) (l r:PySem.W.BT):PySem.W.BT:=.node o l r
noncomputable abbrev l:PySem.W.BT:=.nil
noncomputable abbrev o (v:Value):Option Value:=some v
def D9 (n:Nat) (a b:Nat):PySem.W.BT→PySem.W.BT
 |.nil=>.nil
 |.node o l r=>match Nat.blt b n with
  |true=>.node o (D9 n (2*a) (a+b) l) (D9 n (2*a) (2*a+b) r)
  |false=>.nil
end St
section
open HandSHeadRun PySem.W PySem.Calls
def Bl (p:Program) (M:Nat) (S:World→OsState→SharedT) (w:World):Prop:=∀ os:OsState,topRun treeTable p w (boot_heap w.params).objs.size (bootAnn w) M ⟨boot_heap w.params,#[],boot_drawn,boot_toks,os⟩ (topStub p)=some (S w os).abs
theorem Ea {p q:Program} {loose:List Str} {Xt:Shared→Bool} {α:Type} {Yf:Shared→α} {Ya:World→α} {N M:Nat} {S:World→OsState→SharedT}
  (e:opening p=plainProg p.main.scope.names) (hN:Nat.ble 600 N=true) (f:∀ s,fenceModules? p s=some s) (le:Nat.ble M N=true) (run:∀ w,Bl p M S w)
  (look:∀ (w:World) (os:OsState),(looksF p (boot_heap w.params) (S w os).abs,openSeen q loose (importedModules p.main.body) Xt true (S w os).abs,Yf (S w os).abs)=(true,openGood q loose,Ya w)) :
  LeftO p q loose Xt Yf Ya N true:=fun w=>by
 obtain ⟨⟨h,gs,d,k,os⟩,a,a'⟩:=Option.map_eq_some_iff.mp (boot_open e hN f w)
 obtain ⟨rfl,rfl,rfl,rfl⟩:h=boot_heap w.params∧gs=Array.mk []∧d=boot_drawn∧k=boot_toks:=by simpa using a'
 obtain ⟨l1,l2,l3⟩:_∧_∧_:=by simpa only [Prod.mk.injEq] using look w os
 have r:=topRun_mono (N - M) _ _ _ _ (run w os)
 rw [show M+(N - M)=N by have:=Nat.le_of_ble_eq_true le;omega] at r
 have UD:(staticsOk (importedModules p.main.body) (boot_heap w.params) (S w os).abs.heap&&namesBound p (S w os).abs.heap&&gensDone (S w os).abs&&laidKept (boot_heap w.params) (S w os).abs.heap)=true:=l1
 have t:topFrom treeTable p w N ⟨boot_heap w.params,Array.mk [],boot_drawn,boot_toks,os⟩=some (S w os).abs:=by
  unfold topFrom
  dsimp only
  rw [boot_ns]
  show (topRun treeTable p w (boot_heap w.params).objs.size (bootAnn w) N ⟨boot_heap w.params,#[],boot_drawn,boot_toks,os⟩ (topStub p)).bind _=_
  rw [r]
  show (match staticsOk (importedModules p.main.body) (boot_heap w.params) (S w os).abs.heap&&namesBound p (S w os).abs.heap&&gensDone (S w os).abs&&laidKept (boot_heap w.params) (S w os).abs.heap with |true=>some (S w os).abs |false=>none)=_
  rw [UD]
 unfold openEnds
 rw [a]
 show (topFrom treeTable p w N _).map _=_
 rw [t]
 exact congrArg some (Prod.ext l2 l3)
def Td (r:OpenRow) (q:Program) (loose:List PySem.Str) (S:World→OsState→SharedT):Prop:=∀ (w:World) (os:OsState),(looksF r.prog (boot_heap w.params) (S w os).abs,HandSHeadRun.seenQ q loose (importedModules r.prog.main.body) (fun s=>xlAt q [] s&&recOk r.toRowW.records s) (S w os).abs)=(true,openGood q loose)
def Ky (n:Nat) (x:Frag→Bool) (S:World→OsState→SharedT):Prop:=∀ (w:World) (os:OsState),(NZ (kF n (getT (S w os))) fun K=>x K)=true
def Te (n:Nat) (fn:List bI) (S:World→OsState→SharedT):Prop:=∀ (w:World) (os:OsState),(NZ (kF n (getT (S w os))) fun K=>fn.map fun d=>Lg K (d.at_ K))=fn.map bI.val
def QT (H:Hook) (ob:SharedT→H.α) (S:World→OsState→SharedT):Prop:=∀ (w:World) (os:OsState),ob (S w os)=H.val w
theorem z6 {n:Nat} {x y:Frag→Bool} {S:World→OsState→SharedT} (h1:Ky n x S) (h2:Ky n y S):Ky n (fun K=>x K&&y K) S:=fun w os=>by
 have a:=h1 w os
 have b:=h2 w os
 rw [ug] at a b ⊢
 show (x (kF n (getT (S w os)))&&y (kF n (getT (S w os))))=true
 rw [a,b]
 rfl
theorem Lj {n:Nat} {x:Frag→Bool} {fn:List bI} {S:World→OsState→SharedT} (h1:Ky n x S) (h2:Te n fn S):QT (D4 n fn x) (fun s=>yw n fn x (getT s)) S:=fun w os=>by
 have a:=h1 w os
 have b:=h2 w os
 rw [ug] at a b
 show yw n fn x (getT (S w os))=(true,fn.map bI.val)
 unfold yw
 rw [ug]
 exact Prod.ext a b
theorem Eb {r:OpenRow} {q:Program} {H:Hook} {ob:SharedT→H.α} {M:Nat} {loose:List PySem.Str} {d:DefRec} {kwd:List (PySem.Str×PySem.Expr)} {S:World→OsState→SharedT} (ho:∀ s:SharedT,ob s=H.obs s.abs)
  (e:opening r.prog=plainProg r.prog.main.scope.names) (f:∀ s,fenceModules? r.prog s=some s) (run:∀ w,Bl r.prog M S w) (lk:Td r q loose S) (lo:QT H ob S)
  (hdef:defOf q r.name=some (d,kwd)) (hp:r.prog.theDef r.name=some (d.params,d.body,d.scope)) (hk:kwWritten? d.params.kwonlyargs d.params.kw_defaults=some kwd)
  (hwr:(!r.writes||r.records.isEmpty)=true) (k1:r.wellSaid=true) (ok:(chainsOk q&&opensWell r.prog&&(frees r.toRowW&&r.within.isEmpty))=true) (hb:r.prog.bare) (hw:r.toRowW.promised)
  (call:WalkO q loose (XL q []) H.says r.toRowW d kwd fun f vs=>PySem.call f vs):r.Holds:=by
 have left:LeftO r.prog q loose (fun s=>xlAt q [] s&&recOk r.toRowW.records s) H.obs H.val (M+600) true:=
  Ea (M:=M) e (Nat.ble_eq_true_of_le (by omega)) f (Nat.ble_eq_true_of_le (by omega)) run fun w os=>by
   have z:=lk w os
   rw [seenQ_eq]
   have z1:=congrArg Prod.fst z
   have z2:=congrArg Prod.snd z
   exact Prod.ext z1 (Prod.ext z2 ((ho _).symm.trans (lo w os)))
 exact holds_open (r:=r) (q:=q) (loose:=loose) (XP:=XL q []) (YP:=H.says) (d:=d) (kwd:=kwd) left H.of H.keeps (fun s z=>xl_of s (fZ z).1) XL.keeps hdef hp hk (fun s z=>recFacts_of (fZ z).2) hwr k1 ok hb hw call
section
variable (st:SharedT→Thread→Option (SharedT×Thread)) (n0:Nat) (ann:Option Value)
def NG:Nat→SharedT→Thread→Option (SharedT×Thread)
 |0,s,t=>some (s,t)
 |m+1,s,t=>match through t with
  |true=>none
  |false=>match stepOk n0 ann t with
   |false=>none
   |true=>match st s t with
    |some (s',t')=>frS s' fun s'=>NG m s' t'
    |none=>none
def vn:Nat→SharedT→Thread→Option (Flow×SharedT×Code×Pos)
 |0,_,_=>none
 |m+1,s,t=>match endAt 1 t with
  |some f=>some (f,s,t.code,t.pos)
  |none=>match stepOk n0 ann t with
   |false=>none
   |true=>match st s t with
    |some (s',t')=>frS s' fun s'=>vn m s' t'
    |none=>none
end
section
variable {tb:String→Option Builtin} {p:Program} {w:World} {n0:Nat} {ann:Option Value}
theorem tV:∀ {m:Nat} {s:SharedT} {t:Thread} {r:Flow×SharedT×Code×Pos},vn (stepT (denote tb) p w) n0 ann m s t=some r→segRunT tb p w n0 ann 1 m s t=some r
 |0,_,_,_,h=>by cases h
 |m+1,s,t,r,h=>by
  unfold vn at h
  unfold segRunT
  cases he:endAt 1 t with
  |some f=>rw [he] at h;exact h
  |none=>
   rw [he] at h
   cases hk:stepOk n0 ann t with
   |false=>rw [hk] at h;cases h
   |true=>
    rw [hk] at h
    cases hs:stepT (denote tb) p w s t with
    |none=>rw [hs] at h;cases h
    |some x=>
     obtain ⟨s2,t2⟩:=x
     rw [hs] at h
     have h3:(frS s2 fun s'=>vn (stepT (denote tb) p w) n0 ann m s' t2)=some r:=h
     rw [frS_eq] at h3
     exact tV h3
theorem Ec:∀ {m:Nat} {s s':SharedT} {t t':Thread},NG (stepT (denote tb) p w) n0 ann m s t=some (s',t')→topGo tb p w n0 ann m s.abs t=some (s'.abs,t')
 |0,s,s',t,t',h=>by
  cases h
  rfl
 |m+1,s,s',t,t',h=>by
  unfold NG at h
  unfold topGo
  cases ht:through t with
  |true=>rw [ht] at h;cases h
  |false=>
   rw [ht] at h
   cases hk:stepOk n0 ann t with
   |false=>rw [hk] at h;cases h
   |true=>
    rw [hk] at h
    cases hs:stepT (denote tb) p w s t with
    |none=>rw [hs] at h;cases h
    |some x=>
     obtain ⟨s2,t2⟩:=x
     rw [hs] at h
     have h3:(frS s2 fun s'=>NG (stepT (denote tb) p w) n0 ann m s' t2)=some (s',t'):=h
     rw [frS_eq] at h3
     have q:=Ec h3
     rw [stepT_spec hs]
     exact q
end
noncomputable def Ed:List Stmt→Env→Sem Flow:=PySem.W.Fast.tw12563942051412417395
theorem CF : @PySem.execs=Ed:=PySem.W.Fast.te12563942051412417395
noncomputable def oZ (l:List Stmt) (env:Env) (c:Code) (p:Pos) (q:Pos):Thread:=⟨(Ed l env).wrap doneF deadEnd id id,c,p,[topFrame q]⟩
theorem z7 (l:List Stmt) (env:Env) (c:Code) (p q:Pos):oZ l env c p q=piecesOf l env c p [topFrame q]:=by
 unfold oZ piecesOf
 rw [CF]
theorem CH {p:Program} {w:World} {n0:Nat} {ann:Option Value} {b l1 l2:List Stmt} {env:Env} {q p0 p1 p2 p3:Pos} {k0 k1 k2 k3 k4:Nat} {S0 Sa Sb Sm Se Sf:SharedT}
  (hb:b=l1++l2)
  (h0:NG (stepQ (denQ tabQ) p w) n0 ann k0 S0 (topStub p)=some (Sa,⟨denQ tabQ (.body b env),.body b env,p0,[topFrame q]⟩))
  (h1:vn (stepQ (denQ tabQ) p w) n0 ann k1 Sa (blockOf b env (.body b env) p0 [topFrame q])=some (.next,Sb,.body b env,p1))
  (h2:vn (stepQ (denQ tabQ) p w) n0 ann k2 Sb (oZ l1 env (.body b env) p1 q)=some (.next,Sm,.body b env,p2))
  (h3:vn (stepQ (denQ tabQ) p w) n0 ann k3 Sm (oZ l2 env (.body b env) p2 q)=some (.next,Se,.body b env,p3))
  (h4:goF (stepQ (denQ tabQ) p w) n0 ann k4 Se ⟨doneF .next,.body b env,p3,[topFrame q]⟩=some Sf) :
  topRun treeTable p w n0 ann (k0+(k1+(k2+(k3+k4)))) S0.abs (topStub p)=some Sf.abs:=by
 rw [← stepQ_eq,← denQ_eq,← tabQ_eq] at h0 h1 h2 h3 h4
 rw [z7] at h2 h3
 refine go_top (Ec h0) (piece_block (segRun_of (tV h1)) ?_)
 have e2:=piece_app (rest:=l2) (segRun_of (tV h2)) (N:=k3+k4) (r:=Sf.abs) (by
  have e3:=piece_app (rest:=[]) (segRun_of (tV h3)) (N:=k4) (r:=Sf.abs) (piece_nil (goF_ok h4))
  rw [List.append_nil] at e3
  exact e3)
 rw [← hb] at e2
 exact e2
end
end HS
namespace zW
open PySem PySem.Spec PyProof.Rows L2 HS
def top (i:Nat):Stmt:=PySem.Challenge.pw_holeshift_k04_sums_of_gaps_and_wrong_par.main.body.getD i (.Pass ⟨0,0,0,0⟩)
instance:MK:=⟨[]⟩
abbrev qc:Stmt:=(top 34)
abbrev o4:Stmt:=(top 17)
abbrev qd:Stmt:=(top 14)
abbrev lQ:Stmt:=(top 16)
abbrev rN:Stmt:=(top 26)
abbrev bA:Stmt:=(inClass (top 27) 1)
abbrev nS:Stmt:=(top 35)
abbrev nU:Stmt:=(top 36)
abbrev gi:Stmt:=(top 37)
abbrev lS:Stmt:=(top 41)
abbrev dF:Stmt:=(top 42)
abbrev gw:Stmt:=(inClass (top 24) 2)
abbrev nV:Stmt:=(top 22)
abbrev nW:Stmt:=(inClass (top 24) 23)
abbrev iy:Stmt:=(top 21)
abbrev f6:Stmt:=(inClass (top 24) 0)
abbrev lU:Stmt:=(inClass (top 24) 17)
abbrev kR:Stmt:=(inClass (top 24) 24)
abbrev nX:Stmt:=(inClass (top 24) 3)
abbrev eG:Stmt:=(top 29)
abbrev jI:Stmt:=(top 30)
abbrev iS:Stmt:=(inClass (top 32) 0)
abbrev jq:Stmt:=(inClass (top 27) 9)
abbrev lV:Stmt:=(inClass (top 24) 11)
abbrev lW:Stmt:=(inClass (top 24) 7)
abbrev jJ:Stmt:=(inClass (top 24) 4)
abbrev jK:Stmt:=(inClass (top 32) 7)
abbrev gj:Stmt:=(inClass (top 27) 3)
abbrev i7:Stmt:=(top 38)
abbrev qe:Stmt:=(top 39)
abbrev cH:Stmt:=(top 40)
abbrev Ef:Stmt:=(top 43)
abbrev iz:Stmt:=(inClass (top 6) 0)
abbrev jL:Stmt:=(inClass (top 8) 0)
abbrev jM:Stmt:=(inClass (top 7) 0)
abbrev jN:Stmt:=(inClass (top 5) 0)
structure Ad where
 jO:Addr
 lX:FuncData
 o5:Addr
 rO:FuncData
 jP:Addr
 qf:FuncData
 jr:Addr
 lY:FuncData
 o6:Addr
 rP:FuncData
 iL:Addr
 kT:FuncData
 gB:Addr
 iT:FuncData
 iU:Addr
 kG:FuncData
 gm:Addr
 i8:FuncData
 jt:Addr
 lZ:FuncData
 dH:Addr
 eY:FuncData
 ez:Addr
 gx:FuncData
 kH:Addr
 nY:FuncData
 iV:Addr
 nZ:FuncData
 fF:Addr
 iA:FuncData
 iM:Addr
 kU:FuncData
 gJ:Addr
 l6:FuncData
 f7:Addr
 kW:FuncData
 kI:Addr
 oh:FuncData
 gn:Addr
 i9:FuncData
 gM:Addr
 jQ:FuncData
 kJ:Addr
 oj:FuncData
 gQ:Addr
 l7:FuncData
 ju:Addr
 l8:FuncData
 jv:Addr
 l9:FuncData
 gR:Addr
 jR:FuncData
 dZ:Addr
 jS:FuncData
 gq:Addr
 jc:FuncData
 gr:Addr
 jd:FuncData
 mh:Addr
 qh:FuncData
 eT:Addr
 gS:FuncData
 yx:Addr
 Bm:FuncData
 d7:Addr
 iB:FuncData
 eZ:Addr
 jT:FuncData
 e9:Addr
 jU:FuncData
 fc:Addr
 jV:FuncData
 cQ:Addr
 gE:Addr
 d8:Addr
 gF:Addr
 eo:Addr
 jw:Addr
 ao:Addr
 je:Addr
 ff:Addr
 jW:Addr
 sE:Addr
 om:Addr
/-! ### Lk head: addresses,facts,Lk run -/
def aK (K:Frag):Addr:=He.ga K "BadAmount"
def aZ (K:Frag):Addr:=He.ga K "BadGaps"
def aW (K:Frag):Addr:=He.ga K "BadItem"
def bf (K:Frag):Addr:=He.ga K "BadName"
def bB (K:Frag):Addr:=He.ga K "NoDivisor"
def bC (K:Frag):Addr:=He.ga K "ShiftError"
def au (K:Frag):Addr:=He.ga K "Amount"
def bP (K:Frag):Addr:=He.ga K "Gaps"
def aP (K:Frag):Addr:=He.ga K "Linear"
def dJ (K:Frag):Addr:=Lh K (au K) "is_number"
def iN (K:Frag):Addr:=Lh K (au K) "of"
def fG (K:Frag):Addr:=Lh K (au K) "total"
def eB (K:Frag):Addr:=He.ga K "_law_pen"
def fh (K:Frag):Addr:=He.ga K "is_name"
def dM (K:Frag):Addr:=He.ga K "is_whole"
def cW (K:Frag):Addr:=He.ga K "is_between"
def fj (K:Frag):Addr:=He.ga K "is_part"
def bV (K:Frag):Addr:=z5 K (He.ga K "Linear") "__init__"
def dQ (K:Frag):Addr:=He.ga K "_law_draw"
def dR (K:Frag):Addr:=He.ga K "_law_pick"
def bQ (K:Frag):Addr:=He.ga K "_law_accounts"
def cX (K:Frag):Addr:=He.ga K "_law_heard"
def aR (K:Frag):Addr:=He.ga K "_law_refused_right"
def bh (K:Frag):Addr:=Li K (dJ K) "staticmethod"
def dS (K:Frag):Addr:=He.ga K "halves_of"
def cR (K:Frag):Addr:=z5 K (He.ga K "Amount") "__eq__"
def bH (K:Frag):Addr:=He.ga K "common_divisor"
def bW (K:Frag):Addr:=z5 K (He.ga K "Amount") "__init__"
def cA (K:Frag):Addr:=z5 K (He.ga K "Amount") "__neg__"
def bX (K:Frag):Addr:=z5 K (He.ga K "Amount") "__bool__"
def dU (K:Frag):Addr:=Li K (iN K) "staticmethod"
def bS (K:Frag):Addr:=He.ga K "keys_in_order"
def bZ (K:Frag):Addr:=He.ga K "nonzero_gaps"
def cS (K:Frag):Addr:=z5 K (He.ga K "Gaps") "__init__"
def cB (K:Frag):Addr:=z5 K (He.ga K "Linear") "__neg__"
def cC (K:Frag):Addr:=z5 K (He.ga K "Amount") "__mul__"
def cD (K:Frag):Addr:=z5 K (He.ga K "Amount") "__add__"
def b7 (K:Frag):Addr:=Li K (fG K) "staticmethod"
def br (K:Frag):Addr:=z5 K (He.ga K "Gaps") "__getitem__"
def bz (K:Frag):Addr:=z5 K (He.ga K "Linear") "sum_of"
def bT (K:Frag):Addr:=He.ga K "_law_fraction"
def eE (K:Frag):Addr:=He.ga K "_law_sum"
def bx (K:Frag):Addr:=He.ga K "_law_sums_right"
def mj (K:Frag):Addr:=He.ga K "law"
def bq (K:Frag):Addr:=z5 K (He.ga K "BadAmount") "__init__"
def bJ (K:Frag):Addr:=z5 K (He.ga K "BadGaps") "__init__"
def bK (K:Frag):Addr:=z5 K (He.ga K "BadItem") "__init__"
def bL (K:Frag):Addr:=z5 K (He.ga K "BadName") "__init__"
noncomputable def NH (K:Frag):Ad:={jO:=eB K,lX:=fdOf K (eB K),o5:=fh K,rO:=fdOf K (fh K),jP:=dM K,qf:=fdOf K (dM K),jr:=cW K,lY:=fdOf K (cW K),o6:=fj K,rP:=fdOf K (fj K),iL:=bV K,kT:=fdOf K (bV K),gB:=dQ K,iT:=fdOf K (dQ K),iU:=dR K,kG:=fdOf K (dR K),gm:=bQ K,i8:=fdOf K (bQ K),jt:=cX K,lZ:=fdOf K (cX K),dH:=aR K,eY:=fdOf K (aR K),ez:=bh K,gx:=fdOf K (bh K),kH:=dS K,nY:=fdOf K (dS K),iV:=cR K,nZ:=fdOf K (cR K),fF:=bH K,iA:=fdOf K (bH K),iM:=bW K,kU:=fdOf K (bW K),gJ:=cA K,l6:=fdOf K (cA K),f7:=bX K,kW:=fdOf K (bX K),kI:=dU K,oh:=fdOf K (dU K),gn:=bS K,i9:=fdOf K (bS K),gM:=bZ K,jQ:=fdOf K (bZ K),kJ:=cS K,oj:=fdOf K (cS K),gQ:=cB K,l7:=fdOf K (cB K),ju:=cC K,l8:=fdOf K (cC K),jv:=cD K,l9:=fdOf K (cD K),gR:=b7 K,jR:=fdOf K (b7 K),dZ:=br K,jS:=fdOf K (br K),gq:=bz K,jc:=fdOf K (bz K),gr:=bT K,jd:=fdOf K (bT K),mh:=eE K,qh:=fdOf K (eE K),eT:=bx K,gS:=fdOf K (bx K),yx:=mj K,Bm:=fdOf K (mj K),d7:=bq K,iB:=fdOf K (bq K),eZ:=bJ K,jT:=fdOf K (bJ K),e9:=bK K,jU:=fdOf K (bK K),fc:=bL K,jV:=fdOf K (bL K),cQ:=aK K,gE:=aZ K,d8:=aW K,gF:=bf K,eo:=bB K,jw:=bC K,ao:=au K,je:=bP K,ff:=aP K,jW:=dJ K,sE:=iN K,om:=fG K}
abbrev sF:bI:=⟨eB, "_law_pen", "_law_pen",qc,[]⟩
abbrev uh:bI:=⟨fh, "is_name", "is_name",o4,[]⟩
abbrev sG:bI:=⟨dM, "is_whole", "is_whole",qd,[]⟩
abbrev pG:bI:=⟨cW, "is_between", "is_between",lQ,[]⟩
abbrev um:bI:=⟨fj, "is_part", "is_part",rN,[]⟩
abbrev oq:bI:=⟨bV, "__init__", "Linear.__init__",bA,[]⟩
abbrev qE:bI:=⟨dQ, "_law_draw", "_law_draw",nS,[]⟩
abbrev qF:bI:=⟨dR, "_law_pick", "_law_pick",nU,[]⟩
abbrev lu:bI:=⟨bQ, "_law_accounts", "_law_accounts",gi,[]⟩
abbrev pH:bI:=⟨cX, "_law_heard", "_law_heard",lS,[]⟩
abbrev ir:bI:=⟨aR, "_law_refused_right", "_law_refused_right",dF,[]⟩
abbrev jm:bI:=⟨bh, "is_number", "Amount.is_number",gw,[]⟩
abbrev qG:bI:=⟨dS, "halves_of", "halves_of",nV,[]⟩
abbrev qH:bI:=⟨cR, "__eq__", "Amount.__eq__",nW,[]⟩
abbrev kK:bI:=⟨bH, "common_divisor", "common_divisor",iy,[]⟩
abbrev ou:bI:=⟨bW, "__init__", "Amount.__init__",f6,[]⟩
abbrev pI:bI:=⟨cA, "__neg__", "Amount.__neg__",lU,[]⟩
abbrev ow:bI:=⟨bX, "__bool__", "Amount.__bool__",kR,[]⟩
abbrev qI:bI:=⟨dU, "of", "Amount.of",nX,[]⟩
abbrev ly:bI:=⟨bS, "keys_in_order", "keys_in_order",eG,[]⟩
abbrev m7:bI:=⟨bZ, "nonzero_gaps", "nonzero_gaps",jI,[]⟩
abbrev qJ:bI:=⟨cS, "__init__", "Gaps.__init__",iS,[]⟩
abbrev pJ:bI:=⟨cB, "__neg__", "Linear.__neg__",jq,[]⟩
abbrev pK:bI:=⟨cC, "__mul__", "Amount.__mul__",lV,[]⟩
abbrev pL:bI:=⟨cD, "__add__", "Amount.__add__",lW,[]⟩
abbrev m8:bI:=⟨b7, "total", "Amount.total",jJ,[]⟩
abbrev m9:bI:=⟨br, "__getitem__", "Gaps.__getitem__",jK,[]⟩
abbrev lA:bI:=⟨bz, "sum_of", "Linear.sum_of",gj,[]⟩
abbrev lB:bI:=⟨bT, "_law_fraction", "_law_fraction",i7,[]⟩
abbrev sH:bI:=⟨eE, "_law_sum", "_law_sum",qe,[]⟩
abbrev jX:bI:=⟨bx, "_law_sums_right", "_law_sums_right",cH,[]⟩
abbrev Eh:bI:=⟨mj, "law", "law",Ef,[]⟩
abbrev kL:bI:=⟨bq, "__init__", "BadAmount.__init__",iz,[]⟩
abbrev ng:bI:=⟨bJ, "__init__", "BadGaps.__init__",jL,[]⟩
abbrev nh:bI:=⟨bK, "__init__", "BadItem.__init__",jM,[]⟩
abbrev ni:bI:=⟨bL, "__init__", "BadName.__init__",jN,[]⟩
def N4:List bI:=[sF,uh,sG,pG,um,oq,qE,qF,lu,pH,ir,jm,qG,qH,kK,ou,pI,ow,qI,ly,m7,qJ,pJ,pK,pL,m8,m9,lA,lB,sH,jX,Eh,kL,ng,nh,ni]
abbrev z8 (K:Frag) (c:Frag→Addr) (x:Str) (v:Frag→Addr):Bool:=decide (findIn K (.ref (c K)) x=some (some (.ref (v K))))
abbrev uo (K:Frag) (c:Frag→Addr) (x:Str) (v:String):Bool:=decide (findIn K (.ref (c K)) x=some (some (.builtin v)))
abbrev Bo (K:Frag) (c:Frag→Addr) (x:Str):Bool:=decide (findIn K (.ref (c K)) x=some none)
abbrev rH (K:Frag) (x:Str) (v:Frag→Addr):Bool:=decide (nsIn K mainGlobals x=some (some (.ref (v K))))
abbrev Ei (K:Frag) (x:Str):Bool:=decide (nsIn K mainGlobals x=some none)
abbrev UE (K:Frag) (c:Frag→Addr) (x:Str) (v:String):Bool:=decide (PySem.W.specialIn K (.ref (c K)) x=some (some (.builtin v)))
abbrev qk (K:Frag) (c:Frag→Addr):Bool:=keepIn K (.ref (c K))
abbrev qi (K:Frag) (c:Frag→Addr):Bool:=isFn K (.ref (c K))
abbrev CI (K:Frag) (c:Frag→Addr) (x:String):Bool:=decide (typeIn K (.ref (c K))=some (.type x))
abbrev NI (K:Frag) (c:Frag→Addr) (x:String):Bool:=decide (subIn K (.ref (c K)) (.type x)=some true)
abbrev Ig (K:Frag) (c:Frag→Addr) (x:String):Bool:=decide (mroIn K (c K) (.type x)=some true)
abbrev Ih (K:Frag) (c:Frag→Addr):Bool:=(clsIn K (c K)).isSome
abbrev nO (K:Frag) (c:Frag→Addr) (x:Str):Bool:=codeB K (c K) x
abbrev o7 (K:Frag) (c:Frag→Addr):Bool:=D5 K (c K)
def UG (K:Frag):List Bool:=[decide (PySem.W.specialIn K (.builtin "object.__class__") "__get__" = some (some (.builtin "getset_descriptor.__get__"))),
 decide (PySem.W.takesIn K (.builtin "object.__class__")=some true),
 nO K eB "_law_pen",
 o7 K eB,
 qk K eB,
 nO K fh "is_name",
 o7 K fh,
 qk K fh,
 nO K dM "is_whole",
 o7 K dM,
 qk K dM,
 nO K cW "is_between",
 o7 K cW,
 qk K cW,
 nO K fj "is_part",
 o7 K fj,
 qk K fj,
 nO K bV "Linear.__init__",
 o7 K bV,
 qk K bV]
def UH (K:Frag):List Bool:=[nO K dQ "_law_draw",
 o7 K dQ,
 qk K dQ,
 nO K dR "_law_pick",
 o7 K dR,
 qk K dR,
 nO K bQ "_law_accounts",
 o7 K bQ,
 qk K bQ,
 nO K cX "_law_heard",
 o7 K cX,
 qk K cX,
 nO K aR "_law_refused_right",
 o7 K aR,
 qk K aR,
 nO K bh "Amount.is_number",
 o7 K bh,
 qk K bh,
 nO K dS "halves_of",
 o7 K dS]
def ck2 (K:Frag):List Bool:=[qk K dS,
 nO K cR "Amount.__eq__",
 o7 K cR,
 qk K cR,
 nO K bH "common_divisor",
 o7 K bH,
 qk K bH,
 nO K bW "Amount.__init__",
 Bk K (bW K) [.int (1)],
 qk K bW,
 nO K cA "Amount.__neg__",
 o7 K cA,
 qk K cA,
 nO K bX "Amount.__bool__",
 o7 K bX,
 qk K bX,
 nO K dU "Amount.of",
 o7 K dU,
 qk K dU,
 nO K bS "keys_in_order"]
def UI (K:Frag):List Bool:=[o7 K bS,
 qk K bS,
 nO K bZ "nonzero_gaps",
 o7 K bZ,
 qk K bZ,
 nO K cS "Gaps.__init__",
 Bk K (cS K) [.non],
 qk K cS,
 nO K cB "Linear.__neg__",
 o7 K cB,
 qk K cB,
 nO K cC "Amount.__mul__",
 o7 K cC,
 qk K cC,
 nO K cD "Amount.__add__",
 o7 K cD,
 qk K cD,
 nO K b7 "Amount.total",
 o7 K b7,
 qk K b7]
def UJ (K:Frag):List Bool:=[nO K br "Gaps.__getitem__",
 o7 K br,
 qk K br,
 nO K bz "Linear.sum_of",
 o7 K bz,
 qk K bz,
 nO K bT "_law_fraction",
 o7 K bT,
 qk K bT,
 nO K eE "_law_sum",
 o7 K eE,
 qk K eE,
 nO K bx "_law_sums_right",
 o7 K bx,
 qk K bx,
 nO K mj "law",
 o7 K mj,
 qk K mj,
 nO K bq "BadAmount.__init__",
 o7 K bq]
def UK (K:Frag):List Bool:=[qk K bq,
 nO K bJ "BadGaps.__init__",
 o7 K bJ,
 qk K bJ,
 nO K bK "BadItem.__init__",
 o7 K bK,
 qk K bK,
 nO K bL "BadName.__init__",
 o7 K bL,
 qk K bL,
 rH K "_law_pen" eB,
 rH K "is_name" fh,
 rH K "is_whole" dM,
 rH K "is_between" cW,
 rH K "is_part" fj,
 rH K "_law_draw" dQ,
 rH K "_law_pick" dR,
 rH K "_law_accounts" bQ,
 rH K "_law_heard" cX,
 rH K "_law_refused_right" aR]
def UL (K:Frag):List Bool:=[rH K "halves_of" dS,
 rH K "common_divisor" bH,
 rH K "keys_in_order" bS,
 rH K "nonzero_gaps" bZ,
 rH K "_law_fraction" bT,
 rH K "_law_sum" eE,
 rH K "_law_sums_right" bx,
 rH K "law" mj,
 Ei K "abs",
 Ei K "all",
 Ei K "bool",
 Ei K "dict",
 Ei K "int",
 Ei K "isinstance",
 Ei K "len",
 Ei K "list",
 Ei K "range",
 Ei K "sorted",
 Ei K "str",
 PZ K "LETTERS" (.str "abcdefghijklmnopqrstuvwxyz")]
def UM (K:Frag):List Bool:=[PZ K "LONGEST" (.int (8)),
 Ih K aK,
 uo K aK "__getattribute__" "BaseException.__getattribute__",
 Bo K aK "__getattr__",
 NI K aK "BaseException",
 uo K aK "__class__" "object.__class__",
 Ig K aK "object",
 CI K aK "type",
 rH K "BadAmount" aK,
 Ih K aZ,
 uo K aZ "__getattribute__" "BaseException.__getattribute__",
 Bo K aZ "__getattr__",
 NI K aZ "BaseException",
 uo K aZ "__class__" "object.__class__",
 Ig K aZ "object",
 CI K aZ "type",
 rH K "BadGaps" aZ,
 Ih K aW,
 uo K aW "__getattribute__" "BaseException.__getattribute__",
 Bo K aW "__getattr__"]
def UN (K:Frag):List Bool:=[NI K aW "BaseException",
 uo K aW "__class__" "object.__class__",
 Ig K aW "object",
 CI K aW "type",
 rH K "BadItem" aW,
 Ih K bf,
 uo K bf "__getattribute__" "BaseException.__getattribute__",
 Bo K bf "__getattr__",
 NI K bf "BaseException",
 uo K bf "__class__" "object.__class__",
 Ig K bf "object",
 CI K bf "type",
 rH K "BadName" bf,
 Ih K bB,
 uo K bB "__getattribute__" "BaseException.__getattribute__",
 Bo K bB "__getattr__",
 NI K bB "BaseException",
 uo K bB "__class__" "object.__class__",
 Ig K bB "object",
 CI K bB "type"]
def UO (K:Frag):List Bool:=[rH K "NoDivisor" bB,
 Ih K bC,
 uo K bC "__getattribute__" "BaseException.__getattribute__",
 Bo K bC "__getattr__",
 NI K bC "BaseException",
 uo K bC "__class__" "object.__class__",
 Ig K bC "object",
 CI K bC "type",
 rH K "ShiftError" bC,
 rH K "Amount" au,
 PySem.W.plainGet K (au K) Str.empty,
 PySem.W.hasDictIn K (au K),
 PySem.W.plainOver K (au K),
 uo K au "__setattr__" "object.__setattr__",
 uo K au "__class__" "object.__class__",
 Ig K au "object",
 Ih K au,
 CI K au "type",
 PySem.W.selfFirst K (au K),
 xr K (au K)]
def QU (K:Frag):List Bool:=[rH K "Gaps" bP,
 PySem.W.plainGet K (bP K) Str.empty,
 PySem.W.hasDictIn K (bP K),
 PySem.W.plainOver K (bP K),
 uo K bP "__setattr__" "object.__setattr__",
 uo K bP "__class__" "object.__class__",
 Ig K bP "object",
 Ih K bP,
 CI K bP "type",
 PySem.W.selfFirst K (bP K),
 xr K (bP K),
 rH K "Linear" aP,
 PySem.W.plainGet K (aP K) Str.empty,
 PySem.W.hasDictIn K (aP K),
 PySem.W.plainOver K (aP K),
 uo K aP "__setattr__" "object.__setattr__",
 uo K aP "__class__" "object.__class__",
 Ig K aP "object",
 Ih K aP,
 CI K aP "type"]
def QV (K:Frag):List Bool:=[PySem.W.selfFirst K (aP K),
 xr K (aP K),
 rH K "is_whole_names" dM,
 D7 K (aP K) "MOST" (.int (9)),
 PySem.W.excIn K (bB K) [.type "ValueError",.type "Exception",.type "BaseException",.type "object"] "ValueError.__new__",
 qk K bB,
 PySem.W.fnIn K (br K),
 z8 K aP "sum_of" bz,
 qi K bz,
 PySem.W.makesIn K (au K),
 z8 K au "__init__" bW,
 qi K bW,
 qk K au,
 PySem.W.makesIn K (bP K),
 z8 K bP "__init__" cS,
 qi K cS,
 qk K bP,
 PySem.W.makesIn K (aP K),
 z8 K aP "__init__" bV,
 qi K bV]
def QW (K:Frag):List Bool:=[qk K aP,
 uo K au "__ne__" "object.__ne__",
 Bo K au "bottom",
 Bo K au "top",
 Bo K bP "gap_of",
 Bo K aP "own_parts",
 z8 K au "__add__" cD,
 qi K cD,
 xu (findIn K (.ref (au K)) (dunderR "add")),
 z8 K au "__mul__" cC,
 qi K cC,
 xu (findIn K (.ref (au K)) (dunderR "mul")),
 PySem.W.readsIn K (au K) (.type "type"),
 UE K au "__getattribute__" "type.__getattribute__",
 N3 K (au K) (dJ K) "is_number",
 D6 K (dJ K) (bh K) "staticmethod",
 N3 K (au K) (iN K) "of",
 D6 K (iN K) (dU K) "staticmethod",
 N3 K (au K) (fG K) "total",
 D6 K (fG K) (b7 K) "staticmethod"]
def QX (K:Frag):List Bool:=[z8 K au "__bool__" bX,
 qi K bX,
 z8 K au "__eq__" cR,
 qi K cR,
 z8 K au "__neg__" cA,
 qi K cA,
 z8 K bP "__getitem__" br,
 qi K br,
 z8 K aP "__neg__" cB,
 qi K cB,
 CD K (aK K),
 uo K aK "__setattr__" "object.__setattr__",
 qk K aK,
 PySem.W.hasDictIn K (aK K),
 z8 K aK "__init__" bq,
 CI K bq "function",
 Bo K aK "value",
 CD K (aZ K),
 uo K aZ "__setattr__" "object.__setattr__",
 qk K aZ]
def QY (K:Frag):List Bool:=[PySem.W.hasDictIn K (aZ K),
 z8 K aZ "__init__" bJ,
 CI K bJ "function",
 Bo K aZ "value",
 CD K (aW K),
 uo K aW "__setattr__" "object.__setattr__",
 qk K aW,
 PySem.W.hasDictIn K (aW K),
 z8 K aW "__init__" bK,
 CI K bK "function",
 Bo K aW "part",
 CD K (bf K),
 uo K bf "__setattr__" "object.__setattr__",
 qk K bf,
 PySem.W.hasDictIn K (bf K),
 z8 K bf "__init__" bL,
 CI K bL "function",
 Bo K bf "value",
 decide (kitOne K (.ref (bP K)) (.ref (au K))=some false),
 decide (kitOne K (.ref (au K)) (.ref (bP K))=some false)]
def QZ (K:Frag):List Bool:=[decide (PySem.W.exmOne K (.ref (aW K)) (.ref (bC K))=some true),
 Bj K]
def P7 (K:Frag):Bool:=(UG K).all id&&((UH K).all id&&((ck2 K).all id))
def P8 (K:Frag):Bool:=(UI K).all id&&((UJ K).all id&&((UK K).all id))
def P9 (K:Frag):Bool:=(UL K).all id&&((UM K).all id&&((UN K).all id&&((UO K).all id&&((QU K).all id))))
def Qa (K:Frag):Bool:=(QV K).all id&&((QW K).all id&&((QX K).all id&&((QY K).all id&&((QZ K).all id))))
def ex (K:Frag):Bool:=P7 K&&(P8 K&&(P9 K&&(Qa K)))
theorem Q2 (h:(PySem.W.OpenLaw.row PySem.Challenge.rw_holeshift_k04_sums_of_gaps_and_wrong_par).wellSaid=true→(PySem.W.OpenLaw.row PySem.Challenge.rw_holeshift_k04_sums_of_gaps_and_wrong_par).Holds):PySem.W.OpenLaw.Holds PySem.Challenge.rw_holeshift_k04_sums_of_gaps_and_wrong_par:=by
 w_on;o_law
 exact h (by assumption)
set_option maxHeartbeats 0 in
theorem Q3:(PySem.W.OpenLaw.row PySem.Challenge.rw_holeshift_k04_sums_of_gaps_and_wrong_par).toRowW.promised:=by
 w_on
 w_witness2
theorem N5:(PySem.W.OpenLaw.row PySem.Challenge.rw_holeshift_k04_sums_of_gaps_and_wrong_par).prog.bare:=⟨rfl,rfl,rfl,rfl,rfl,by decide +kernel⟩
abbrev sX:PySem.W.OpenRow:=PySem.W.OpenLaw.row PySem.Challenge.rw_holeshift_k04_sums_of_gaps_and_wrong_par
abbrev qv:Program:=PySem.W.view sX.prog [43]
def names0:List PySem.Str:=["_wall", "ShiftError", "BadInput", "NoAnswer", "BadName", "BadAmount", "BadItem", "BadGaps", "BadText", "NoDivisor", "LETTERS", "LONGEST", "is_whole", "is_whole_names", "is_between", "is_name", "FIGURES", "MOST_FIGURES", "common_divisor", "halves_of"]
def names1:List PySem.Str:=["figures_of", "Amount", "is_part", "Linear", "keys_in_order", "nonzero_gaps", "gap_in", "Gaps", "_law_pen", "_law_draw", "_law_pick", "_law_accounts", "_law_fraction", "_law_sum", "_law_sums_right", "_law_heard", "_law_refused_right"]
def names:List PySem.Str:=names0++names1
abbrev hk:PySem.W.Hook:=D4 30000 N4 ex
def ob (s:PySem.W.SharedT):Bool×List N2:=yw 30000 N4 ex (HandSHeadRun.getT s)
namespace Z
open HS.St
noncomputable abbrev z9:String:=PySem.W.SL.s2742458400755230247x6
noncomputable abbrev Qc:String:=PySem.W.SL.s8101838861749082086x8
noncomputable abbrev jx:String:=PySem.W.SL.s11030030927630378310x26
noncomputable abbrev Ii:String:=PySem.W.SL.s10220274742760427390x26
noncomputable abbrev N6:String:=PySem.W.SL.s7097527257260152453x26
noncomputable abbrev Tf:String:=PySem.W.SL.s591115383303110208x11
noncomputable abbrev Ll:String:=PySem.W.SL.s11443829558043349243x14
noncomputable abbrev DN:String:=PySem.W.SL.s17162191345867700912x4
noncomputable abbrev xw:String:=PySem.W.SL.s4209523147560561109x18
noncomputable abbrev Ej:String:=PySem.W.SL.s6070975301684473832x10
noncomputable abbrev sY:String:=PySem.W.SL.s10062305145149207511x16
noncomputable abbrev Ij:String:=PySem.W.SL.s5946037652744460706x9
noncomputable abbrev DP:String:=PySem.W.SL.s4290257624100764138x5
noncomputable abbrev Lm:String:=PySem.W.SL.s12411053484034534018x21
noncomputable abbrev Aa:String:=PySem.W.SL.s14755015743595814543x17
noncomputable abbrev Qe:String:=PySem.W.SL.s16656946322747308186x12
noncomputable abbrev Ln:String:=PySem.W.SL.s6511155373996960695x17
noncomputable abbrev Ik:String:=PySem.W.SL.s4278001404047624695x13
noncomputable abbrev rQ:String:=PySem.W.SL.s658472552662922059x5
noncomputable abbrev sZ:String:=PySem.W.SL.s4860613602091757760x24
noncomputable abbrev zf:Str := "/claim/cut.py"
noncomputable abbrev jY:Str := "self"
noncomputable abbrev lP:Str := "__init__"
noncomputable abbrev nJ:Str := "holeshift.amounts"
noncomputable abbrev pM:Str := "holeshift.errors"
noncomputable abbrev qB:Str := "__module__"
noncomputable abbrev sJ:Str := "holeshift.gaps"
noncomputable abbrev tW:Str := "__firstlineno__"
noncomputable abbrev tX:Str := "__static_attributes__"
noncomputable abbrev v8:Str := "other"
noncomputable abbrev xy:Str := "__doc__"
noncomputable abbrev nK:Str := "__qualname__"
noncomputable abbrev qj:Str := "__neg__"
noncomputable abbrev ql:Str := "__eq__"
noncomputable abbrev qK:Str := "holeshift.linear"
noncomputable abbrev rR:Str := "is_whole"
noncomputable abbrev tu:Str := "accounts"
noncomputable abbrev tD:Str := "read"
noncomputable abbrev tE:Str := "value"
noncomputable abbrev tF:Str := "top"
noncomputable abbrev tH:Str := "bottom"
noncomputable abbrev uq:Str := "law_holeshift_k04_sums_of_gaps_and_wrong_par"
noncomputable abbrev vo:Str := "__rmul__"
noncomputable abbrev vp:Str := "over"
noncomputable abbrev vq:Str := "__add__"
noncomputable abbrev vt:Str := "__sub__"
noncomputable abbrev vv:Str := "__mul__"
noncomputable abbrev vz:Str := "__str__"
noncomputable abbrev vA:Str := "__contains__"
noncomputable abbrev vB:Str := "__len__"
noncomputable abbrev vC:Str := "__iter__"
noncomputable abbrev vD:Str := "__getitem__"
noncomputable abbrev yy:Str := "ShiftError"
noncomputable abbrev yz:Str := "NoDivisor"
noncomputable abbrev yC:Str := "__weakref__"
noncomputable abbrev yD:Str := "BadText"
noncomputable abbrev yE:Str := "BadItem"
noncomputable abbrev yF:Str := "BadAmount"
noncomputable abbrev yG:Str := "BadName"
noncomputable abbrev yH:Str := "NoAnswer"
noncomputable abbrev yI:Str := "Amount"
noncomputable abbrev yJ:Str := "Linear"
noncomputable abbrev yK:Str := "BadGaps"
noncomputable abbrev yL:Str := "BadInput"
noncomputable abbrev Ac:Str := "keys_in_order"
noncomputable abbrev Ae:Str := "common_divisor"
noncomputable abbrev Af:Str := "_law_heard"
noncomputable abbrev Ag:Str := "_law_pick"
noncomputable abbrev Ah:Str := "number"
noncomputable abbrev Ai:Str := "_law_sums_right"
noncomputable abbrev Aj:Str := "_law_draw"
noncomputable abbrev Ak:Str := "is_name"
noncomputable abbrev Am:Str := "_law_sum"
noncomputable abbrev An:Str := "_law_refused_right"
noncomputable abbrev Ao:Str := "is_between"
noncomputable abbrev Aq:Str := "__name__"
noncomputable abbrev Ar:Str := "__annotations__"
noncomputable abbrev As:Str := "_law_accounts"
noncomputable abbrev Au:Str := "gap_in"
noncomputable abbrev Av:Str := "figures_of"
noncomputable abbrev Aw:Str := "is_part"
noncomputable abbrev Ax:Str := "_law_fraction"
noncomputable abbrev Ay:Str := "_law_pen"
noncomputable abbrev Az:Str := "nonzero_gaps"
noncomputable abbrev AA:Str := "halves_of"
noncomputable abbrev AB:Str := "_wall"
noncomputable abbrev CJ:Str := "is_number"
noncomputable abbrev CM:Str := "__dict__"
noncomputable abbrev Ek:Str := "__radd__"
noncomputable abbrev El:Str := "__rsub__"
noncomputable abbrev Em:Str := "__floordiv__"
noncomputable abbrev En:Str := "__rfloordiv__"
noncomputable abbrev Eo:Str := "__mod__"
noncomputable abbrev Ep:Str := "__rmod__"
noncomputable abbrev Es:Str := "__abs__"
noncomputable abbrev Et:Str := "__bool__"
noncomputable abbrev Eu:Str := "__repr__"
noncomputable abbrev Ew:Str := "account"
noncomputable abbrev Il:Str := "Amount.read"
noncomputable abbrev Im:Str := "Amount.is_number"
noncomputable abbrev Io:Str := "_law_pen_here"
noncomputable abbrev Ip:Str := "Gaps.lone"
noncomputable abbrev Iq:Str := "Amount.of"
noncomputable abbrev Ir:Str := "Gaps.read"
noncomputable abbrev Iu:Str := "Amount.total"
noncomputable abbrev Lo:Str := "BadGaps.__init__"
noncomputable abbrev Lp:Str := "Amount.__ge__"
noncomputable abbrev Lq:Str := "Gaps.__rmul__"
noncomputable abbrev Lr:Str := "Amount.__radd__"
noncomputable abbrev Ls:Str := "Gaps.accounts"
noncomputable abbrev Lu:Str := "Amount.is_whole"
noncomputable abbrev Lv:Str := "Linear.__contains__"
noncomputable abbrev Lw:Str := "Amount.__bool__"
noncomputable abbrev Lx:Str := "Amount.__mod__"
noncomputable abbrev Ly:Str := "BadName.__init__"
noncomputable abbrev Lz:Str := "Amount.__eq__"
noncomputable abbrev LA:Str := "Gaps.__neg__"
noncomputable abbrev LC:Str := "Amount.__rfloordiv__"
noncomputable abbrev LD:Str := "Gaps.__len__"
noncomputable abbrev LF:Str := "Linear.__len__"
noncomputable abbrev LG:Str := "Amount.__add__"
noncomputable abbrev Ex:Str := "Amount.__rmod__"
noncomputable abbrev Ey:Str := "Linear.__iter__"
noncomputable abbrev Ez:Str := "Linear.__init__"
noncomputable abbrev EA:Str := "Linear.sum_of"
noncomputable abbrev EB:Str := "Amount.__abs__"
noncomputable abbrev EC:Str := "BadText.__init__"
noncomputable abbrev ED:Str := "Gaps.__str__"
noncomputable abbrev EE:Str := "Gaps.__getitem__"
noncomputable abbrev EF:Str := "holeshift.names"
noncomputable abbrev EG:Str := "Amount.__mul__"
noncomputable abbrev EH:Str := "Amount.__le__"
noncomputable abbrev EI:Str := "Gaps.__sub__"
noncomputable abbrev EJ:Str := "Linear.__eq__"
noncomputable abbrev EK:Str := "Linear.faces"
noncomputable abbrev EL:Str := "Amount.__rsub__"
noncomputable abbrev EM:Str := "Amount.__lt__"
noncomputable abbrev EN:Str := "Linear.__neg__"
noncomputable abbrev EO:Str := "BadAmount.__init__"
noncomputable abbrev ER:Str := "Gaps.__init__"
noncomputable abbrev ES:Str := "Amount.__repr__"
noncomputable abbrev ET:Str := "Gaps.__iter__"
noncomputable abbrev EU:Str := "Amount.__rmul__"
noncomputable abbrev EV:Str := "Amount.__floordiv__"
noncomputable abbrev EW:Str := "Gaps.__contains__"
noncomputable abbrev EY:Str := "Linear.__getitem__"
noncomputable abbrev EZ:Str := "Amount.__init__"
noncomputable abbrev E2:Str := "Amount.__gt__"
noncomputable abbrev E3:Str := "Gaps.__mul__"
noncomputable abbrev E4:Str := "Amount.__sub__"
noncomputable abbrev E5:Str := "Amount.__str__"
noncomputable abbrev E6:Str := "BadItem.__init__"
noncomputable abbrev E7:Str := "Gaps.__add__"
noncomputable abbrev E8:Str := "Amount.__neg__"
noncomputable abbrev E9:Str := "Linear.accounts"
noncomputable def UP (p:Params):PySem.W.BT:=(t (cL yy [Y Ej] [R 31,Y Ej,Y Ij,Y Ik,Y z9] 30 yy [R 44,R 56] [o (R 22),none,o (S yy 196),o (S yy 204),o (B xw),o T]) (t (cN [I 13,I 4,R 71]) (t (pF (inClass (top 8) 0) lP Lo) (t (fM Qe 254 [R 253,F]) (t (fN (top 29) Ac Ac N N N sJ 859 510) l l) l) (t (pF (inClass (top 24) 22) "__ge__" Lp) (t (pF (inClass (top 32) 14) vo Lq) l l) l)) (t (fN (top 21) Ae Ae N N N nJ 418 190) (t (tU []) (t (dI [] 0) l l) l) (t (fL Qc [R 446,N,N,N,S tu 791,F]) (t (tU [S "_law_parts" 1121,S "_law_told" 1122,S "_law_top" 1123,S "_law_bottom" 1124,S "_law_owner" 1125,S "_law_one" 1126,S "_law_two" 1127]) l l) l))) (t (fL DP [R 94,R 94,R 94]) (t (cO yz 375 yz 376 zf 377 32 0 0 0 0 157 F 181 158 N N N N 378 32 379) (t (fN (inClass (top 24) 8) Ek Lr N N N nJ 418 286) (t (pF (inClass (top 32) 1) tu Ls) l l) l) (t (dI [E p qB 452 (S nJ 418),E p tW 456 (.int (61) 455),E p lP 468 (R 218),E p rR 476 (R 226),E p CJ 495 (R 235),E p "of" 516 (R 245),E p "total" 537 (R 255),E p tD 562 (R 265),E p vp 570 (R 273),E p vq 580 (R 280),E p Ek 588 (R 287),E p vt 598 (R 294),E p El 606 (R 301),E p vv 616 (R 308),E p vo 624 (R 315),E p Em 634 (R 322),E p En 642 (R 329),E p Eo 651 (R 336),E p Ep 659 (R 343),E p qj 666 (R 350),E p Es 673 (R 357),E p "__lt__" 683 (R 364),E p "__le__" 693 (R 371),E p "__gt__" 703 (R 378),E p "__ge__" 713 (R 385),E p ql 721 (R 392),E p Et 728 (R 399),E p vz 735 (R 406),E p Eu 742 (R 413),E p tX 745 (R 414),E p CM 747 (R 417),E p yC 749 (R 418),E p xy 750 N,E p "__hash__" 751 N] 5) (t (tU []) l l) l)) (t (pF (inClass (top 24) 1) rR Lu) (t (tU []) (t (tU []) l l) l) (t (cO vA 820 Lv 821 zf 822 220 2 0 0 3 474 T 181 475 N (R 476) (R 477) (R 478) 825 220 826) l l))))
noncomputable def UQ (p:Params):PySem.W.BT:=(t (tU [R 31]) (t (fL jx [B sY,Y DN]) (t (cN []) (t (pF (inClass (top 24) 6) vp "Amount.over") (t (fL jx [B sY,Y DN]) l l) l) (t (fN (inClass (top 24) 24) Et Lw N N N nJ 418 398) (t (fN (inClass (top 32) 16) ql "Gaps.__eq__" N N N sJ 859 654) l l) l)) (t (tU []) (t (cO Eo 643 Lx 644 zf 645 145 2 0 0 3 330 T 181 331 N (R 332) (R 333) (R 334) 649 145 650) (t (cN []) l l) l) (t (tU []) (t (fN (top 41) Af Af N N N uq 1074 718) l l) l))) (t (tU [S "part" 316]) (t (tU [S tE 406,S "low" 407,S "high" 408]) (t (cN []) (t (tU []) l l) l) (t (tU []) (t (cO Ag 1096 Ag 1097 zf 1098 356 2 0 0 3 682 T 181 683 N (R 684) (R 685) (R 686) 1101 356 1102) l l) l)) (t (tU [S Ah 499,S tF 500,S tH 501]) (t (tU [S jY 687,S v8 688,S tF 689,S tH 690]) (t (tU []) l l) l) (t (tU [S jY 844,S v8 845]) l l))))
noncomputable def UR (p:Params):PySem.W.BT:=(t (cN []) (t (cO lP 258 Ly 259 zf 260 13 2 0 0 3 66 T 181 67 N (R 68) (R 69) (R 70) 263 13 264) (t (tU [R 44]) (t (fO (fD (inClass (top 24) 5) tD Il 3 [] N N N (S nJ 418) (some 266) (R 262) N 0)) (t (tU []) l l) l) (t (cO ql 714 Lz 715 zf 716 174 2 0 0 3 386 T 181 387 N (R 388) (R 389) (R 390) 719 174 720) (t (cO qj 1043 LA 1044 zf 1045 326 1 0 0 3 642 T 181 643 N (R 644) (R 645) (R 646) 1047 326 1048) l l) l)) (t (tU []) (t (pF (inClass (top 24) 14) En LC) (t (tU []) l l) l) (t (tU [S jY 801]) (t (cO Ai 1131 Ai 1132 zf 1133 371 1 0 0 3 708 T 181 709 N N N (R 710) 1134 371 1135) l l) l))) (t (sL rQ [o (R 102),o (R 3),o (R 99),none,o (S pM 194),none,o (R 0)]) (t (cN []) (t (tU []) (t (pF (inClass (top 32) 2) "hole" "Gaps.hole") l l) l) (t (tU [S tE 759,S "most" 760]) (t (pF (top 35) Aj Aj) l l) l)) (t (pF (inClass (top 24) 2) CJ Im) (t (cN []) (t (pF (inClass (top 32) 10) vB LD) l l) l) (t (fN (inClass (top 27) 8) vB LF N N N qK 754 486) l l))))
noncomputable def US (p:Params):PySem.W.BT:=(t (dI [E p qB 237 (S pM 194),E p tW 241 (.int (9) 240),E p tX 242 (R 54),E p xy 243 N] 2) (t (tU [S jY 286,S tE 287]) (t (cL yD [R 44] [R 151,R 44,R 31,Y Ej,Y Ij,Y Ik,Y z9] 150 yD [] [o (R 135),none,o (S yD 346),o (S yD 354),o (B xw),o T]) (t (cO vq 571 LG 572 zf 573 113 2 0 0 3 274 T 181 275 N (R 276) (R 277) (R 278) 578 113 579) (t (cN []) l l) l) (t (tU []) (t (cL "Gaps" [Y z9] [R 663,Y z9] 662 "Gaps" [] [none,none,o (S "Gaps" 888),o (S "Gaps" 896),o (B Ll),o T]) l l) l)) (t (tU []) (t (fN (inClass (top 24) 16) Ep Ex N N N nJ 418 342) (t (tU [S jY 996]) l l) l) (t (pF (inClass (top 27) 6) vC Ey) (t (tU [S "_law_script" 1155,S Io 1156,S "_law_turn" 1157]) l l) l))) (t (tU []) (t (cO Ak 412 Ak 413 zf 414 42 1 0 0 3 180 T 181 181 N N N (R 182) 415 42 416) (t (tU [S jY 620,S v8 621]) (t (cN []) l l) l) (t (fN (inClass (top 27) 1) lP Ez N N N qK 754 438) (t (cN []) l l) l)) (t (tU []) (t (tU []) (t (cN []) l l) l) (t (fL Aa [S CM 851,R 502,B Ln,B Lm]) l l))))
noncomputable def UT (p:Params):PySem.W.BT:=(t (tU [R 31]) (t (cN []) (t (dI [E p qB 328 (S pM 194),E p tW 332 (.int (23) 331),E p lP 340 (R 129),E p tX 342 (R 130),E p xy 343 N] 2) (t (tU [S "cls" 541,S "text" 542,S "words" 543,S "is_below" 544,S tF 545,S tH 546,S "found" 547]) (t (tU []) l l) l) (t (cN []) (t (cN []) l l) l)) (t (tU []) (t (tU []) (t (tU []) l l) l) (t (cO "sum_of" 792 EA 793 zf 794 208 2 0 0 3 448 T 181 449 N N N (R 450) 795 208 796) (t (fN (top 39) Am Am N N N uq 1074 706) l l) l))) (t (dI [E p qB 303 (S pM 194),E p nK 305 (S yE 304),E p tW 307 (.int (19) 306),E p lP 315 (R 110),E p tX 317 (R 111)] 5) (t (cL yz [R 56] [R 163,R 56,R 31,Y Ej,Y Ij,Y Ik,Y z9] 162 yz [] [o (R 154),none,o (S yz 373),o (S yz 381),o (B xw),o T]) (t (tU []) (t (tU []) l l) l) (t (fL DP [R 416,R 416,R 416]) (t (tU []) l l) l)) (t (tU []) (t (pF (inClass (top 24) 18) Es EB) (t (tU []) l l) l) (t (tU [S jY 831]) l l))))
noncomputable def UU (p:Params):PySem.W.BT:=(t (cN []) (t (cO yF 273 yF 274 zf 275 15 0 0 0 0 81 F 181 82 N N N N 276 15 277) (t (cO lP 358 EC 359 zf 360 29 3 0 0 3 142 T 181 143 N (R 144) (R 145) (R 146) 364 29 365) (t (cN []) (t (cO "Gaps" 890 "Gaps" 891 zf 892 259 0 0 0 0 529 F 181 530 N N N N 893 259 894) l l) l) (t (tU []) (t (cO vz 1058 ED 1059 zf 1060 332 1 0 0 3 656 T 181 657 N N N (R 658) 1061 332 1062) l l) l)) (t (tU [.int (1) 457]) (t (tU [S jY 655,S v8 656]) (t (cO vD 985 EE 986 zf 987 299 2 0 0 3 590 T 181 591 N (R 592) (R 593) (R 594) 990 299 991) l l) l) (t (tU []) (t (cO An 1146 An 1147 zf 1148 394 1 0 0 3 720 T 181 721 N N N (R 722) 1149 394 1150) l l) l))) (t (fL jx [B sZ,R 113]) (t (fN (top 16) Ao Ao N N N EF 389 178) (t (cO vv 607 EG 608 zf 609 127 2 0 0 3 302 T 181 303 N (R 304) (R 305) (R 306) 614 127 615) (t (dI [E p qB 932 (S sJ 859),E p Aq 935 (S "lone" 934),E p nK 938 (S Ip 937),E p xy 940 N,E p Ar 942 (R 565)] 5) l l) l) (t (tU []) (t (pF (top 37) As As) l l) l)) (t (fO (fD (inClass (top 24) 3) "of" Iq 3 [] N N N (S nJ 418) (some 246) (R 242) N 0)) (t (fN (inClass (top 24) 20) "__le__" EH N N N nJ 418 370) (t (pF (inClass (top 32) 12) vt EI) l l) l) (t (fN (inClass (top 27) 10) ql EJ N N N qK 754 498) l l))))
noncomputable def UW (p:Params):PySem.W.BT:=(t (dI [E p qB 221 (S pM 194),E p tW 225 (.int (7) 224),E p tX 226 (R 42),E p xy 227 N] 2) (t (cL yG [R 44] [R 75,R 44,R 31,Y Ej,Y Ij,Y Ik,Y z9] 74 yG [] [o (R 59),none,o (S yG 246),o (S yG 254),o (B xw),o T]) (t (cN [I 29,I 4,R 147]) (t (tU []) (t (pF (top 31) Au Au) l l) l) (t (tU [S jY 725]) (t (tU [S jY 1053,S v8 1054]) l l) l)) (t (fN (top 23) Av Av N N N nJ 418 202) (t (cN []) (t (pF (inClass (top 32) 6) "behind" "Gaps.behind") l l) l) (t (fN (inClass (top 27) 4) "faces" EK N N N qK 754 458) (t (tU [S "_law_thing" 1140,S "_law_caught" 1141,S "error" 1142]) l l) l))) (t (tU []) (t (cO rR 395 rR 396 zf 397 37 1 0 0 3 166 T 181 167 N (R 168) (R 169) (R 170) 399 37 400) (t (pF (inClass (top 24) 10) El EL) (t (tU [.int (1) 923]) l l) l) (t (fN (top 26) Aw Aw N N N qK 754 426) (t (cN []) l l) l)) (t (fM Qe 234 [R 233,F]) (t (cO "__lt__" 674 EM 675 zf 676 158 2 0 0 3 358 T 181 359 N (R 360) (R 361) (R 362) 681 158 682) (t (cN []) l l) l) (t (cO qj 835 EN 836 zf 837 226 1 0 0 3 488 T 181 489 N N N (R 490) 838 226 839) l l))))
noncomputable def UX (p:Params):PySem.W.BT:=(t (tU [R 44]) (t (fN (inClass (top 6) 0) lP EO N N N pM 194 90) (t (fL jx [B sY,Y DN]) (t (tU [S jY 584,S v8 585]) (t (cO lP 900 ER 901 zf 902 261 2 0 0 3 534 T 181 535 N (R 536) (R 537) (R 538) 905 261 906) l l) l) (t (pF (inClass (top 24) 26) Eu ES) (t (fL jx [B sZ,R 663]) l l) l)) (t (tU []) (t (tU []) (t (fN (inClass (top 32) 8) vC ET N N N sJ 859 602) l l) l) (t (cN []) (t (fN (top 43) "law" "law" N N N uq 1074 730) l l) l))) (t (tU []) (t (tU [S "one" 427,S v8 428]) (t (fN (inClass (top 24) 12) vo EU N N N nJ 418 314) (t (cO tD 944 Ir 945 zf 946 276 2 0 0 3 566 T 181 567 N (R 568) (R 569) (R 570) 953 276 954) l l) l) (t (tU []) (t (cO Ax 1110 Ax 1111 zf 1112 361 1 0 0 3 694 T 181 695 N (R 696) (R 697) (R 698) 1115 361 1116) l l) l)) (t (pF (inClass (top 24) 4) "total" Iu) (t (tU []) (t (tU []) l l) l) (t (tU []) l l))))
noncomputable def UY (p:Params):PySem.W.BT:=(t (fL DP [R 31,R 31,R 31]) (t (sL rQ [o (R 64),o (R 3),o (R 61),none,o (S pM 194),none,o (R 0)]) (t (fN (inClass (top 8) 0) lP Lo N N N pM 194 128) (t (tU []) (t (cN []) l l) l) (t (fN (inClass (top 24) 22) "__ge__" Lp N N N nJ 418 384) (t (fN (inClass (top 32) 14) vo Lq N N N sJ 859 640) l l) l)) (t (cN []) (t (cO Em 625 EV 626 zf 627 136 2 0 0 3 316 T 181 317 N (R 318) (R 319) (R 320) 632 136 633) (t (cN []) l l) l) (t (cN []) (t (pF (top 39) Am Am) l l) l))) (t (tU [R 44]) (t (tU []) (t (cN []) (t (fN (inClass (top 32) 1) tu Ls N N N sJ 859 544) l l) l) (t (fL Aa [S CM 746,R 416,B Ln,B Lm]) (t (cO Ay 1076 Ay 1077 zf 1078 337 1 0 0 3 668 T 181 669 N (R 670) (R 671) (R 672) 1080 337 1081) l l) l)) (t (fN (inClass (top 24) 1) rR Lu N N N nJ 418 224) (t (tU [S jY 670]) (t (cO vA 1000 EW 1001 zf 1002 307 2 0 0 3 604 T 181 605 N (R 606) (R 607) (R 608) 1005 307 1006) l l) l) (t (tU []) l l))))
noncomputable def UZ (p:Params):PySem.W.BT:=(t (dI [E p qB 237 (S pM 194),E p nK 239 (S yH 238),E p tW 241 (.int (9) 240),E p tX 242 (R 54)] 4) (t (tU []) (t (tU []) (t (fN (inClass (top 24) 6) vp "Amount.over" N N N nJ 418 272) (t (tU []) l l) l) (t (cN []) (t (cN []) l l) l)) (t (cO yI 447 yI 448 zf 449 61 0 0 0 0 207 F 181 208 N N N N 450 61 451) (t (tU []) (t (tU []) l l) l) (t (cO vD 805 EY 806 zf 807 214 2 0 0 3 460 T 181 461 N (R 462) (R 463) (R 464) 810 214 811) (t (cN []) l l) l))) (t (cL yE [R 44] [R 113,R 44,R 31,Y Ej,Y Ij,Y Ik,Y z9] 112 yE [] [o (R 97),none,o (S yE 296),o (S yE 304),o (B xw),o T]) (t (pF (top 16) Ao Ao) (t (tU []) (t (cO "lone" 924 Ip 925 zf 926 272 2 0 0 3 556 T 181 557 N (R 558) (R 559) (R 560) 929 272 930) l l) l) (t (cO yJ 766 yJ 767 zf 768 192 0 0 0 0 431 F 181 432 N N N N 769 192 770) (t (tU []) l l) l)) (t (pF (inClass (top 24) 3) "of" Iq) (t (pF (inClass (top 24) 20) "__le__" EH) (t (tU [S jY 1024,S v8 1025]) l l) l) (t (pF (inClass (top 27) 10) ql EJ) l l))))
noncomputable def U0 (p:Params):PySem.W.BT:=(t (sL rQ [o (R 40),o (R 3),o (R 37),none,o (S pM 194),none,o (R 0)]) (t (tU [S tE 266]) (t (dI [E p qB 353 (S pM 194),E p nK 355 (S yD 354),E p tW 357 (.int (27) 356),E p lP 366 (R 148),E p tX 369 (R 149)] 5) (t (fM Tf 264 [R 263,F]) (t (tU [S "word" 881,S "at" 882,S "found" 883,S "error" 884]) l l) l) (t (tU []) (t (tU []) l l) l)) (t (pF (top 23) Av Av) (t (fN (inClass (top 24) 14) En LC N N N nJ 418 328) (t (tU [S jY 979,S "shift" 980,S Ah 981]) l l) l) (t (pF (inClass (top 27) 4) "faces" EK) (t (tU []) l l) l))) (t (cN []) (t (tU []) (t (tU [S jY 602,S v8 603]) (t (fN (inClass (top 32) 2) "hole" "Gaps.hole" N N N sJ 859 552) l l) l) (t (pF (top 26) Aw Aw) (t (fN (top 35) Aj Aj N N N uq 1074 680) l l) l)) (t (fO (fD (inClass (top 24) 2) CJ Im 3 [] N N N (S nJ 418) (some 236) (R 232) N 0)) (t (tU []) (t (fN (inClass (top 32) 10) vB LD N N N sJ 859 616) l l) l) (t (cN []) l l))))
noncomputable def U3 (p:Params):PySem.W.BT:=(t (fL DP [R 56,R 56,R 56]) (t (pF (inClass (top 6) 0) lP EO) (t (fL jx [B sZ,R 151]) (t (tU []) (t (tU []) l l) l) (t (tU [S jY 739]) (t (fL Aa [S yC 1068,R 663,B Ii,N]) l l) l)) (t (cO lP 458 EZ 459 zf 460 63 3 0 0 3 212 T 181 213 N (R 214) (R 215) (R 216) 466 63 467) (t (cN []) (t (pF (inClass (top 32) 8) vC ET) l l) l) (t (fN (inClass (top 27) 6) vC Ey N N N qK 754 472) (t (pF (top 43) "law" "law") l l) l))) (t (cO yK 323 yK 324 zf 325 23 0 0 0 0 119 F 181 120 N N N N 326 23 327) (t (tU []) (t (pF (inClass (top 24) 12) vo EU) (t (tU []) l l) l) (t (cN []) (t (tU []) l l) l)) (t (tU [S "numbers" 520,S "found" 521,S Ah 522]) (t (cO "__gt__" 694 E2 695 zf 696 166 2 0 0 3 372 T 181 373 N (R 374) (R 375) (R 376) 701 166 702) (t (cO vv 1029 E3 1030 zf 1031 320 2 0 0 3 630 T 181 631 N N N (R 632) 1032 320 1033) l l) l) (t (fL DP [R 502,R 502,R 502]) l l))))
noncomputable def U4 (p:Params):PySem.W.BT:=(t (dI [E p qB 221 (S pM 194),E p nK 223 (S yL 222),E p tW 225 (.int (7) 224),E p tX 226 (R 42)] 4) (t (tU []) (t (fL DP [R 132,R 132,R 132]) (t (pF (inClass (top 24) 5) tD Il) (t (cO Az 867 Az 868 zf 869 235 1 0 0 3 512 T 181 513 N (R 514) (R 515) (R 516) 875 235 876) l l) l) (t (tU []) (t (tU []) l l) l)) (t (cO AA 432 AA 433 zf 434 53 1 0 0 3 192 T 181 193 N (R 194) (R 195) (R 196) 436 53 437) (t (tU [S jY 638,S v8 639]) (t (cO vp 968 "Gaps.over" 969 zf 970 293 2 0 0 3 576 T 181 577 N (R 578) (R 579) (R 580) 973 293 974) l l) l) (t (tU []) (t (cN []) l l) l))) (t (cN [I 21,I 4,R 109]) (t (fL jx [B sZ,R 163]) (t (cO vt 589 E4 590 zf 591 120 2 0 0 3 288 T 181 289 N (R 290) (R 291) (R 292) 596 120 597) (t (tU [S jY 918]) l l) l) (t (tU []) (t (tU [S Io 1086,S "_law_many" 1087,S "_law_digit" 1088,S "_law_begun" 1089,S "_law_lone" 1090,S "_law_great" 1091,S "_law_mixed" 1092]) l l) l)) (t (tU [S tE 480]) (t (fN (inClass (top 24) 18) Es EB N N N nJ 418 356) (t (tU [S jY 1011]) l l) l) (t (pF (inClass (top 27) 8) vB LF) l l))))
noncomputable def U5 (p:Params):PySem.W.BT:=(t (sL rQ [o (R 52),o (R 3),o (R 49),none,o (S pM 194),none,o (R 0)]) (t (tU []) (t (tU [S "line" 367,S "word" 368]) (t (tU []) (t (tU [N]) l l) l) (t (cO vz 729 E5 730 zf 731 182 1 0 0 3 400 T 181 401 N (R 402) (R 403) (R 404) 733 182 734) (t (tU [S "gap_of" 1064]) l l) l)) (t (cN []) (t (pF (inClass (top 24) 16) Ep Ex) (t (tU []) l l) l) (t (tU [S jY 816]) (t (tU []) l l) l))) (t (fL jx [B sY,Y DN]) (t (cN []) (t (tU []) (t (dI [] 0) l l) l) (t (pF (inClass (top 27) 1) lP Ez) (t (fN (top 37) As As N N N uq 1074 692) l l) l)) (t (fM Qe 244 [R 243,F]) (t (cN []) (t (fN (inClass (top 32) 12) vt EI N N N sJ 859 628) l l) l) (t (dI [E p qB 771 (S qK 754),E p tW 775 (.int (192) 774),E p "MOST" 777 (.int (9) 776),E p lP 783 (R 439),E p tu 791 (R 447),E p "sum_of" 797 (R 452),E p "faces" 804 (R 459),E p vD 812 (R 466),E p vC 819 (R 473),E p vA 827 (R 480),E p vB 834 (R 487),E p qj 840 (R 492),E p ql 848 (R 499),E p tX 850 (R 500),E p CM 852 (R 503),E p yC 854 (R 504),E p xy 855 N,E p "__hash__" 856 N] 5) l l))))
noncomputable def U6 (p:Params):PySem.W.BT:=(t (fL DP [R 44,R 44,R 44]) (t (fL jx [B sZ,R 75]) (t (sL rQ [o (R 140),o (R 3),o (R 137),none,o (S pM 194),none,o (R 0)]) (t (tU [S jY 566,S Ah 567]) (t (fN (top 31) Au Au N N N sJ 859 524) l l) l) (t (pF (inClass (top 24) 24) Et Lw) (t (pF (inClass (top 32) 16) ql "Gaps.__eq__") l l) l)) (t (fL jx [B sY,Y DN]) (t (tU []) (t (fN (inClass (top 32) 6) "behind" "Gaps.behind" N N N sJ 859 588) l l) l) (t (cN []) (t (pF (top 41) Af Af) l l) l))) (t (cO lP 308 E6 309 zf 310 21 2 0 0 3 104 T 181 105 N (R 106) (R 107) (R 108) 313 21 314) (t (tU []) (t (fN (inClass (top 24) 10) El EL N N N nJ 418 300) (t (cN []) l l) l) (t (fL jx [B sY,Y DN]) (t (tU []) l l) l)) (t (tU []) (t (tU []) (t (cO vq 1015 E7 1016 zf 1017 313 2 0 0 3 618 T 181 619 N N N (R 620) 1018 313 1019) l l) l) (t (tU []) l l))))
noncomputable def U7 (p:Params):PySem.W.BT:=(t (dI [E p qB 253 (S pM 194),E p nK 255 (S yG 254),E p tW 257 (.int (11) 256),E p lP 265 (R 72),E p tX 267 (R 73)] 5) (t (dI [E p qB 278 (S pM 194),E p tW 282 (.int (15) 281),E p lP 290 (R 91),E p tX 292 (R 92),E p xy 293 N] 2) (t (tU []) (t (pF (inClass (top 24) 8) Ek Lr) (t (tU []) l l) l) (t (fN (inClass (top 24) 26) Eu ES N N N nJ 418 412) (t (cN []) l l) l)) (t (tU [S jY 472]) (t (cO qj 660 E8 661 zf 662 152 1 0 0 3 344 T 181 345 N (R 346) (R 347) (R 348) 664 152 665) (t (cN []) l l) l) (t (tU []) l l))) (t (tU [S jY 336,S tE 337]) (t (pF (top 21) Ae Ae) (t (cN []) (t (dI [E p qB 956 (S sJ 859),E p Aq 959 (S tD 958),E p nK 962 (S Ir 961),E p xy 964 N,E p Ar 966 (R 575)] 5) l l) l) (t (cO tu 784 E9 785 zf 786 204 1 0 0 3 440 T 181 441 N (R 442) (R 443) (R 444) 788 204 789) (t (tU []) l l) l)) (t (fO (fD (inClass (top 24) 4) "total" Iu 3 [] N N N (S nJ 418) (some 256) (R 252) N 0)) (t (tU [S jY 707,S v8 708,S tF 709,S tH 710]) (t (tU [S jY 1038,S v8 1039]) l l) l) (t (pF (top 29) Ac Ac) l l))))
noncomputable def U8 (p:Params):PySem.W.BT:=(t (fL Aa [S yC 209,R 31,B Ii,N]) (t (cO yG 248 yG 249 zf 250 11 0 0 0 0 62 F 181 63 N N N N 251 11 252) (t (cO lP 333 Lo 334 zf 335 25 2 0 0 3 123 T 181 124 N (R 125) (R 126) (R 127) 338 25 339) (t (dI [] 0) (t (tU []) l l) l) (t (cO "__ge__" 704 Lp 705 zf 706 170 2 0 0 3 379 T 181 380 N (R 381) (R 382) (R 383) 711 170 712) (t (cO vo 1035 Lq 1036 zf 1037 323 2 0 0 3 635 T 181 636 N (R 637) (R 638) (R 639) 1040 323 1041) l l) l)) (t (tU []) (t (pF (inClass (top 24) 13) Em EV) (t (tU []) l l) l) (t (tU []) (t (tU []) l l) l))) (t (fL jx [B sZ,R 94]) (t (sL rQ [o (R 159),o (R 3),o (R 156),none,o (S pM 194),none,o (R 0)]) (t (tU []) (t (cO tu 908 Ls 909 zf 910 264 1 0 0 3 541 T 181 542 N N N (R 543) 911 264 912) l l) l) (t (cL yI [Y z9] [R 416,Y z9] 415 yI [] [none,none,o (S yI 445),o (S yI 453),o (B Ll),o T]) (t (pF (top 34) Ay Ay) l l) l)) (t (cO rR 469 Lu 470 zf 471 75 1 0 0 3 219 T 181 220 N (R 221) (R 222) (R 223) 473 75 474) (t (cN []) (t (pF (inClass (top 32) 9) vA EW) l l) l) (t (fN (inClass (top 27) 7) vA Lv N N N qK 754 479) l l))))
noncomputable def U9 (p:Params):PySem.W.BT:=(t (fL jx [B sY,Y DN]) (t (dI [E p qB 278 (S pM 194),E p nK 280 (S yF 279),E p tW 282 (.int (15) 281),E p lP 290 (R 91),E p tX 292 (R 92)] 5) (t (tU [S jY 361,S "line" 362,S "word" 363]) (t (cO vp 563 "Amount.over" 564 zf 565 110 2 0 0 3 267 T 181 268 N (R 269) (R 270) (R 271) 568 110 569) (t (dI [E p qB 895 (S sJ 859),E p nK 897 (S "Gaps" 896),E p tW 899 (.int (259) 898),E p lP 907 (R 540),E p tu 914 (R 546),E p "hole" 922 (R 554),E p "lone" 943 (R 564),E p tD 967 (R 574),E p vp 975 (R 582),E p "behind" 984 (R 589),E p vD 992 (R 596),E p vC 999 (R 603),E p vA 1007 (R 610),E p vB 1014 (R 617),E p vq 1020 (R 622),E p vt 1028 (R 629),E p vv 1034 (R 634),E p vo 1042 (R 641),E p qj 1049 (R 648),E p ql 1057 (R 655),E p vz 1063 (R 660),E p tX 1065 (R 661)] 22) l l) l) (t (tU []) (t (tU []) l l) l)) (t (cN [I 63,I 4,R 217,I 76,I 4,R 224,I 80,I 4,R 232,I 84,I 4,R 242,I 91,I 4,R 252,I 98,I 4,R 262,I 110,I 4,R 272,I 113,I 4,R 279,I 117,I 4,R 286,I 120,I 4,R 293,I 124,I 4,R 300,I 127,I 4,R 307,I 133,I 4,R 314,I 136,I 4,R 321,I 142,I 4,R 328,I 145,I 4,R 335,I 149,I 4,R 342,I 152,I 4,R 349,I 155,I 4,R 356,I 158,I 4,R 363,I 162,I 4,R 370,I 166,I 4,R 377,I 170,I 4,R 384,I 174,I 4,R 391,I 179,I 4,R 398,I 182,I 4,R 405,I 187,I 4,R 412]) (t (fN (inClass (top 24) 15) Eo Lx N N N nJ 418 335) (t (tU [S jY 988,S Ew 989]) l l) l) (t (pF (inClass (top 27) 5) vD EY) (t (tU []) l l) l))) (t (dI [E p qB 303 (S pM 194),E p tW 307 (.int (19) 306),E p lP 315 (R 110),E p tX 317 (R 111),E p xy 318 N] 2) (t (tU []) (t (tU [S jY 610,S v8 611,S tF 612,S tH 613]) (t (pF (inClass (top 32) 3) "lone" Ip) l l) l) (t (cN [I 195,I 4,R 438,I 205,I 4,R 445,I 208,I 4,R 451,I 211,I 4,R 458,I 214,I 4,R 465,I 217,I 4,R 472,I 220,I 4,R 479,I 223,I 4,R 486,I 226,I 4,R 491,I 229,I 4,R 498]) (t (fN (top 36) Ag Ag N N N uq 1074 687) l l) l)) (t (tU []) (t (tU []) (t (cN []) l l) l) (t (tU []) l l))))
noncomputable def Vb (p:Params):PySem.W.BT:=(t (cO yL 216 yL 217 zf 218 7 0 0 0 0 38 F 181 39 N N N N 219 7 220) (t (fN (inClass (top 5) 0) lP Ly N N N pM 194 71) (t (fL jx [B sY,Y DN]) (t (dI [E p qB 551 (S nJ 418),E p Aq 554 (S tD 553),E p nK 557 (S Il 556),E p xy 559 N,E p Ar 561 (R 266)] 5) (t (cN []) l l) l) (t (fN (inClass (top 24) 23) ql Lz N N N nJ 418 391) (t (fN (inClass (top 32) 15) qj LA N N N sJ 859 647) l l) l)) (t (cN []) (t (cO En 635 LC 636 zf 637 142 2 0 0 3 323 T 181 324 N (R 325) (R 326) (R 327) 640 142 641) (t (cN []) l l) l) (t (tU []) (t (fN (top 40) Ai Ai N N N uq 1074 711) l l) l))) (t (tU []) (t (tU [S tE 398]) (t (cN []) (t (cO "hole" 915 "Gaps.hole" 916 zf 917 268 1 0 0 3 547 T 181 548 N (R 549) (R 550) (R 551) 919 268 920) l l) l) (t (tU []) (t (cO Aj 1083 Aj 1084 zf 1085 339 2 0 0 3 675 T 181 676 N (R 677) (R 678) (R 679) 1093 339 1094) l l) l)) (t (cO CJ 477 Im 478 zf 479 79 1 0 0 3 227 T 181 228 N (R 229) (R 230) (R 231) 481 79 482) (t (tU [S jY 677,S v8 678,S tF 679,S tH 680]) (t (cO vB 1008 LD 1009 zf 1010 310 1 0 0 3 611 T 181 612 N (R 613) (R 614) (R 615) 1012 310 1013) l l) l) (t (tU []) l l))))
noncomputable def Vc (p:Params):PySem.W.BT:=(t (cL yH [R 31] [R 56,R 31,Y Ej,Y Ij,Y Ik,Y z9] 55 yH [R 163] [o (R 47),none,o (S yH 230),o (S yH 238),o (B xw),o T]) (t (tU []) (t (fL DP [R 151,R 151,R 151]) (t (fN (inClass (top 24) 7) vq LG N N N nJ 418 279) (t (tU [S jY 903,S "values" 904]) l l) l) (t (cN []) (t (fL Aa [S CM 1066,R 663,B Ln,B Lm]) l l) l)) (t (pF (inClass (top 24) 0) lP EZ) (t (tU []) (t (tU []) l l) l) (t (cO vC 813 Ey 814 zf 815 217 1 0 0 3 467 T 181 468 N (R 469) (R 470) (R 471) 817 217 818) (t (tU []) l l) l))) (t (cN [I 25,I 4,R 128]) (t (fN (top 17) Ak Ak N N N EF 389 183) (t (tU []) (t (tU [S "cls" 947,S "text" 948,S "words" 949,S "found" 950,S "ahead" 951,S "at" 952]) l l) l) (t (tU []) (t (tU [S Io 1113,S "_law_top" 1114]) l l) l)) (t (cN []) (t (pF (inClass (top 24) 21) "__gt__" E2) (t (pF (inClass (top 32) 13) vv E3) l l) l) (t (fL Aa [S yC 853,R 502,B Ii,N]) l l))))
noncomputable def Vd (p:Params):PySem.W.BT:=(t (fL jx [B sY,Y DN]) (t (tU [S jY 261,S tE 262]) (t (cL yK [R 44] [R 132,R 44,R 31,Y Ej,Y Ij,Y Ik,Y z9] 131 yK [] [o (R 116),none,o (S yK 321),o (S yK 329),o (B xw),o T]) (t (tU []) (t (pF (top 30) Az Az) l l) l) (t (tU [S jY 717,S v8 718]) (t (tU [S jY 1046]) l l) l)) (t (pF (top 22) AA AA) (t (cN []) (t (pF (inClass (top 32) 5) vp "Gaps.over") l l) l) (t (fN (inClass (top 27) 3) "sum_of" EA N N N qK 754 451) (t (tU []) l l) l))) (t (tU []) (t (fL DP [R 163,R 163,R 163]) (t (pF (inClass (top 24) 9) vt E4) (t (cN []) l l) l) (t (fL jx [B sZ,R 416]) (t (cN []) l l) l)) (t (cN []) (t (cO Es 667 EB 668 zf 669 155 1 0 0 3 351 T 181 352 N (R 353) (R 354) (R 355) 671 155 672) (t (cN []) l l) l) (t (tU []) l l))))
noncomputable def Vf (p:Params):PySem.W.BT:=(t (cO yH 232 yH 233 zf 234 9 0 0 0 0 50 F 181 51 N N N N 235 9 236) (t (sL rQ [o (R 83),o (R 3),o (R 80),none,o (S pM 194),none,o (R 0)]) (t (fN (inClass (top 9) 0) lP EC N N N pM 194 147) (t (tU [S jY 574,S v8 575,S tF 576,S tH 577]) (t (sL rQ [o (R 531),o (R 3),o (R 528),none,o (S sJ 859),none,o (R 0)]) l l) l) (t (pF (inClass (top 24) 25) vz E5) (t (fN (inClass (top 32) 17) vz ED N N N sJ 859 659) l l) l)) (t (tU []) (t (tU []) (t (fN (inClass (top 32) 7) vD EE N N N sJ 859 595) l l) l) (t (cN []) (t (fN (top 42) An An N N N uq 1074 723) l l) l))) (t (tU [R 44]) (t (tU []) (t (fN (inClass (top 24) 11) vv EG N N N nJ 418 307) (t (fM Qe 563 [R 562,F]) l l) l) (t (cN []) (t (cO As 1104 As 1105 zf 1106 358 2 0 0 3 689 T 181 690 N N N (R 691) 1107 358 1108) l l) l)) (t (dI [E p qB 505 (S nJ 418),E p Aq 508 (S "of" 507),E p nK 511 (S Iq 510),E p xy 513 N,E p Ar 515 (R 246)] 5) (t (tU []) (t (cO vt 1021 EI 1022 zf 1023 317 2 0 0 3 623 T 181 624 N (R 625) (R 626) (R 627) 1026 317 1027) l l) l) (t (tU [S "own_parts" 849]) l l))))
noncomputable def Vh (p:Params):PySem.W.BT:=(t (cL yL [R 31] [R 44,R 31,Y Ej,Y Ij,Y Ik,Y z9] 43 yL [R 75,R 94,R 113,R 132,R 151] [o (R 35),none,o (S yL 214),o (S yL 222),o (B xw),o T]) (t (fL DP [R 75,R 75,R 75]) (t (cO yD 348 yD 349 zf 350 27 0 0 0 0 138 F 181 139 N N N N 351 27 352) (t (cN []) (t (cO Au 878 Au 879 zf 880 251 2 0 0 3 519 T 181 520 N (R 521) (R 522) (R 523) 885 251 886) l l) l) (t (tU []) (t (tU []) l l) l)) (t (tU []) (t (tU [S jY 646,S v8 647,S "many" 648]) (t (cO "behind" 976 "Gaps.behind" 977 zf 978 296 3 0 0 3 583 T 181 584 N (R 585) (R 586) (R 587) 982 296 983) l l) l) (t (tU []) (t (tU []) l l) l))) (t (pF (inClass (top 7) 0) lP E6) (t (fN (top 14) rR rR N N N EF 389 171) (t (cO El 599 EL 600 zf 601 124 2 0 0 3 295 T 181 296 N (R 297) (R 298) (R 299) 604 124 605) (t (tU []) l l) l) (t (tU []) (t (tU [S Io 1099,S "_law_some" 1100]) l l) l)) (t (dI [] 0) (t (fN (inClass (top 24) 19) "__lt__" EM N N N nJ 418 363) (t (pF (inClass (top 32) 11) vq E7) l l) l) (t (fN (inClass (top 27) 9) qj EN N N N qK 754 491) l l))))
noncomputable def LH (p:Params):PySem.W.BT:=(t (fL jx [B sY,Y DN]) (t (tU [S tE 291]) (t (dI [E p qB 380 (S pM 194),E p nK 382 (S yz 381),E p tW 384 (.int (32) 383),E p tX 385 (R 161)] 4) (t (tU []) (t (fN (inClass (top 32) 0) lP ER (R 533) N N sJ 859 539) l l) l) (t (cO Eu 736 ES 737 zf 738 187 1 0 0 3 407 T 181 408 N (R 409) (R 410) (R 411) 740 187 741) (t (tU []) l l) l)) (t (cN []) (t (pF (inClass (top 24) 17) qj E8) (t (tU []) l l) l) (t (tU [S jY 823,S Ew 824]) l l))) (t (cN []) (t (tU []) (t (tU []) (t (fO (fD (inClass (top 32) 4) tD Ir 3 [] N N N (S sJ 859) (some 575) (R 571) N 0)) l l) l) (t (pF (inClass (top 27) 2) tu E9) (t (fN (top 38) Ax Ax N N N uq 1074 699) l l) l)) (t (cO "total" 517 Iu 518 zf 519 90 1 0 0 3 247 T 181 248 N (R 249) (R 250) (R 251) 523 90 524) (t (cN []) (t (cN []) l l) l) (t (cN []) l l))))
noncomputable def Vj (p:Params):PySem.W.BT:=(t (fL jx [B sZ,R 31]) (t (tU []) (t (tU [S tE 341]) (t (cN []) (t (tU [S "told" 870,S "key" 871,S "found" 872,S Ew 873,S "amount" 874]) l l) l) (t (tU []) (t (tU []) l l) l)) (t (tU [S Ah 435]) (t (fN (inClass (top 24) 13) Em EV N N N nJ 418 321) (t (tU [S jY 971,S Ah 972]) l l) l) (t (pF (inClass (top 27) 3) "sum_of" EA) (t (cO Am 1118 Am 1119 zf 1120 364 2 0 0 3 701 T 181 702 N (R 703) (R 704) (R 705) 1128 364 1129) l l) l))) (t (fL jx [B sY,Y DN]) (t (dI [E p qB 380 (S pM 194),E p tW 384 (.int (32) 383),E p tX 385 (R 161),E p xy 386 N] 2) (t (tU [S jY 592,S v8 593,S tF 594,S tH 595]) (t (fL Qc [R 545,N,N,N,S tu 914,F]) l l) l) (t (fL Aa [S yC 748,R 416,B Ii,N]) (t (fN (top 34) Ay Ay N N N uq 1074 673) l l) l)) (t (fL Qc [R 225,N,N,N,S rR 476,F]) (t (tU []) (t (fN (inClass (top 32) 9) vA EW N N N sJ 859 609) l l) l) (t (cN []) l l))))
noncomputable def Vk (p:Params):PySem.W.BT:=(t (tU []) (t (cN [I 17,I 4,R 90]) (t (pF (inClass (top 9) 0) lP EC) (t (tU []) (t (cN [I 261,I 4,R 539,I 265,I 4,R 544,I 269,I 4,R 552,I 273,I 4,R 561,I 277,I 4,R 571,I 293,I 4,R 581,I 296,I 4,R 588,I 299,I 4,R 595,I 304,I 4,R 602,I 307,I 4,R 609,I 310,I 4,R 616,I 313,I 4,R 621,I 317,I 4,R 628,I 320,I 4,R 633,I 323,I 4,R 640,I 326,I 4,R 647,I 329,I 4,R 654,I 332,I 4,R 659]) l l) l) (t (tU [S jY 732]) (t (pF (inClass (top 32) 17) vz ED) l l) l)) (t (sL rQ [o (R 209),o (R 3),o (R 206),none,o (S nJ 418),none,o (R 0)]) (t (cN []) (t (pF (inClass (top 32) 7) vD EE) l l) l) (t (fN (inClass (top 27) 5) vD EY N N N qK 754 465) (t (pF (top 42) An An) l l) l))) (t (fL DP [R 113,R 113,R 113]) (t (cO Ao 403 Ao 404 zf 405 40 3 0 0 3 173 T 181 174 N (R 175) (R 176) (R 177) 409 40 410) (t (pF (inClass (top 24) 11) vv EG) (t (fO (fD (inClass (top 32) 3) "lone" Ip 3 [] (R 555) N N (S sJ 859) (some 565) (R 561) N 0)) l l) l) (t (sL rQ [o (R 433),o (R 3),o (R 430),none,o (S qK 754),none,o (R 0)]) (t (cN []) l l) l)) (t (cO "of" 496 Iq 497 zf 498 83 1 0 0 3 237 T 181 238 N (R 239) (R 240) (R 241) 502 83 503) (t (cO "__le__" 684 EH 685 zf 686 162 2 0 0 3 365 T 181 366 N (R 367) (R 368) (R 369) 691 162 692) (t (tU []) l l) l) (t (cO ql 841 EJ 842 zf 843 229 2 0 0 3 493 T 181 494 N (R 495) (R 496) (R 497) 846 229 847) l l))))
noncomputable def Vl (p:Params):PySem.W.BT:=(t (tU []) (t (dI [E p qB 253 (S pM 194),E p tW 257 (.int (11) 256),E p lP 265 (R 72),E p tX 267 (R 73),E p xy 268 N] 2) (t (tU []) (t (dI [] 0) (t (tU []) l l) l) (t (cN []) (t (cN []) l l) l)) (t (cO Av 439 Av 440 zf 441 57 1 0 0 3 199 T 181 200 N N N (R 201) 442 57 443) (t (tU []) (t (tU []) l l) l) (t (cO "faces" 798 EK 799 zf 800 211 1 0 0 3 453 T 181 454 N (R 455) (R 456) (R 457) 802 211 803) (t (cN []) l l) l))) (t (tU [S jY 311,S "part" 312]) (t (pF (top 14) rR rR) (t (tU []) (t (fL Qc [R 553,N,N,N,S "hole" 922,F]) l l) l) (t (cO Aw 756 Aw 757 zf 758 190 2 0 0 3 421 T 181 422 N (R 423) (R 424) (R 425) 761 190 762) (t (tU []) l l) l)) (t (dI [E p qB 484 (S nJ 418),E p Aq 487 (S CJ 486),E p nK 490 (S Im 489),E p xy 492 N,E p Ar 494 (R 236)] 5) (t (pF (inClass (top 24) 19) "__lt__" EM) (t (tU []) l l) l) (t (pF (inClass (top 27) 9) qj EN) l l))))
noncomputable def Vm (p:Params):PySem.W.BT:=(t (fL jx [B sZ,R 56]) (t (cO lP 283 EO 284 zf 285 17 2 0 0 3 85 T 181 86 N (R 87) (R 88) (R 89) 288 17 289) (t (tU [R 56]) (t (cN []) (t (pF (inClass (top 32) 0) lP ER) l l) l) (t (tU []) (t (fL DP [R 663,R 663,R 663]) l l) l)) (t (fN (inClass (top 24) 0) lP EZ (R 211) N N nJ 418 217) (t (tU [S jY 663]) (t (cO vC 993 ET 994 zf 995 304 1 0 0 3 597 T 181 598 N (R 599) (R 600) (R 601) 997 304 998) l l) l) (t (tU []) (t (cO "law" 1152 "law" 1153 zf 1154 410 1 0 0 3 725 T 181 726 N (R 727) (R 728) (R 729) 1158 410 1159) l l) l))) (t (sL rQ [o (R 121),o (R 3),o (R 118),none,o (S pM 194),none,o (R 0)]) (t (cN []) (t (cO vo 617 EU 618 zf 619 133 2 0 0 3 309 T 181 310 N (R 311) (R 312) (R 313) 622 133 623) (t (pF (inClass (top 32) 4) tD Ir) l l) l) (t (tU [S jY 787]) (t (pF (top 38) Ax Ax) l l) l)) (t (tU []) (t (fN (inClass (top 24) 21) "__gt__" E2 N N N nJ 418 377) (t (fN (inClass (top 32) 13) vv E3 N N N sJ 859 633) l l) l) (t (fL jx [B sZ,R 502]) l l))))
noncomputable def Vn (p:Params):PySem.W.BT:=(t (tU []) (t (pF (inClass (top 5) 0) lP Ly) (t (fL jx [B sZ,R 132]) (t (cO tD 538 Il 539 zf 540 97 2 0 0 3 257 T 181 258 N (R 259) (R 260) (R 261) 548 97 549) (t (fN (top 30) Az Az N N N sJ 859 517) l l) l) (t (pF (inClass (top 24) 23) ql Lz) (t (pF (inClass (top 32) 15) qj LA) l l) l)) (t (fN (top 22) AA AA N N N nJ 418 197) (t (tU []) (t (fN (inClass (top 32) 5) vp "Gaps.over" N N N sJ 859 581) l l) l) (t (cN []) (t (pF (top 40) Ai Ai) l l) l))) (t (cO yE 298 yE 299 zf 300 19 0 0 0 0 100 F 181 101 N N N N 301 19 302) (t (tU []) (t (fN (inClass (top 24) 9) vt E4 N N N nJ 418 293) (t (tU []) l l) l) (t (cN []) (t (tU []) l l) l)) (t (tU []) (t (tU []) (t (tU []) l l) l) (t (cO vB 828 LF 829 zf 830 223 1 0 0 3 481 T 181 482 N (R 483) (R 484) (R 485) 832 223 833) l l))))
noncomputable def Vo (p:Params):PySem.W.BT:=(t (tU []) (t (cN []) (t (dI [E p qB 353 (S pM 194),E p tW 357 (.int (27) 356),E p lP 366 (R 148),E p tX 369 (R 149),E p xy 370 N] 2) (t (pF (inClass (top 24) 7) vq LG) (t (tU []) l l) l) (t (fN (inClass (top 24) 25) vz E5 N N N nJ 418 405) (t (dI [E p qB 895 (S sJ 859),E p tW 899 (.int (259) 898),E p lP 907 (R 540),E p tu 914 (R 546),E p "hole" 922 (R 554),E p "lone" 943 (R 564),E p tD 967 (R 574),E p vp 975 (R 582),E p "behind" 984 (R 589),E p vD 992 (R 596),E p vC 999 (R 603),E p vA 1007 (R 610),E p vB 1014 (R 617),E p vq 1020 (R 622),E p vt 1028 (R 629),E p vv 1034 (R 634),E p vo 1042 (R 641),E p qj 1049 (R 648),E p ql 1057 (R 655),E p vz 1063 (R 660),E p tX 1065 (R 661),E p CM 1067 (R 664),E p yC 1069 (R 665),E p xy 1070 N,E p "__hash__" 1071 N] 5) l l) l)) (t (tU [S jY 461,S tF 462,S tH 463,S tE 464,S "divisor" 465]) (t (cO Ep 652 Ex 653 zf 654 149 2 0 0 3 337 T 181 338 N (R 339) (R 340) (R 341) 657 149 658) (t (cN []) l l) l) (t (tU []) (t (cN []) l l) l))) (t (dI [E p qB 328 (S pM 194),E p nK 330 (S yK 329),E p tW 332 (.int (23) 331),E p lP 340 (R 129),E p tX 342 (R 130)] 5) (t (pF (top 17) Ak Ak) (t (cN []) (t (tU []) l l) l) (t (cO lP 778 Ez 779 zf 780 195 2 0 0 3 435 T 181 436 N N N (R 437) 781 195 782) (t (tU []) l l) l)) (t (dI [] 0) (t (tU [S jY 697,S v8 698,S tF 699,S tH 700]) (t (tU []) l l) l) (t (cL yJ [Y z9] [R 502,Y z9] 501 yJ [] [none,none,o (S yJ 764),o (S yJ 772),o (B Ll),o T]) l l))))
noncomputable def Vp (p:Params):PySem.W.BT:=(t (fL jx [B sZ,R 44]) (t (tU [R 44]) (t (tU []) (t (tU []) (t (tU []) l l) l) (t (cO Et 722 Lw 723 zf 724 179 1 0 0 3 393 T 181 394 N (R 395) (R 396) (R 397) 726 179 727) (t (cO ql 1050 "Gaps.__eq__" 1051 zf 1052 329 2 0 0 3 649 T 181 650 N (R 651) (R 652) (R 653) 1055 329 1056) l l) l)) (t (dI [E p qB 452 (S nJ 418),E p nK 454 (S yI 453),E p tW 456 (.int (61) 455),E p lP 468 (R 218),E p rR 476 (R 226),E p CJ 495 (R 235),E p "of" 516 (R 245),E p "total" 537 (R 255),E p tD 562 (R 265),E p vp 570 (R 273),E p vq 580 (R 280),E p Ek 588 (R 287),E p vt 598 (R 294),E p El 606 (R 301),E p vv 616 (R 308),E p vo 624 (R 315),E p Em 634 (R 322),E p En 642 (R 329),E p Eo 651 (R 336),E p Ep 659 (R 343),E p qj 666 (R 350),E p Es 673 (R 357),E p "__lt__" 683 (R 364),E p "__le__" 693 (R 371),E p "__gt__" 703 (R 378),E p "__ge__" 713 (R 385),E p ql 721 (R 392),E p Et 728 (R 399),E p vz 735 (R 406),E p Eu 742 (R 413),E p tX 745 (R 414)] 31) (t (pF (inClass (top 24) 15) Eo Lx) (t (tU []) l l) l) (t (tU [S jY 808,S Ew 809]) (t (cO Af 1137 Af 1138 zf 1139 385 1 0 0 3 713 T 181 714 N (R 715) (R 716) (R 717) 1143 385 1144) l l) l))) (t (fN (inClass (top 7) 0) lP E6 N N N pM 194 109) (t (cN []) (t (tU []) (t (tU [S Ew 927,S Ah 928]) l l) l) (t (dI [E p qB 771 (S qK 754),E p nK 773 (S yJ 772),E p tW 775 (.int (192) 774),E p "MOST" 777 (.int (9) 776),E p lP 783 (R 439),E p tu 791 (R 447),E p "sum_of" 797 (R 452),E p "faces" 804 (R 459),E p vD 812 (R 466),E p vC 819 (R 473),E p vA 827 (R 480),E p vB 834 (R 487),E p qj 840 (R 492),E p ql 848 (R 499),E p tX 850 (R 500)] 15) (t (pF (top 36) Ag Ag) l l) l)) (t (cN []) (t (cN []) (t (fN (inClass (top 32) 11) vq E7 N N N sJ 859 621) l l) l) (t (cN []) l l))))
noncomputable def Vq (p:Params):PySem.W.BT:=(t (tU []) (t (cL yF [R 44] [R 94,R 44,R 31,Y Ej,Y Ij,Y Ik,Y z9] 93 yF [] [o (R 78),none,o (S yF 271),o (S yF 279),o (B xw),o T]) (t (cN []) (t (cO Ek 581 Lr 582 zf 583 117 2 0 0 3 281 T 181 282 N (R 283) (R 284) (R 285) 586 117 587) (t (cN []) l l) l) (t (tU [S tH 743,S tF 744]) (t (tU [S "_law_script" 1079]) l l) l)) (t (tU []) (t (fN (inClass (top 24) 17) qj E8 N N N nJ 418 349) (t (tU [S jY 1003,S tE 1004]) l l) l) (t (pF (inClass (top 27) 7) vA Lv) l l))) (t (tU []) (t (cO Ae 424 Ae 425 zf 426 49 2 0 0 3 185 T 181 186 N (R 187) (R 188) (R 189) 429 49 430) (t (tU [S jY 628,S v8 629,S tF 630,S tH 631]) (t (fM Tf 573 [R 572,F]) l l) l) (t (fN (inClass (top 27) 2) tu E9 N N N qK 754 445) (t (cN []) l l) l)) (t (dI [E p qB 526 (S nJ 418),E p Aq 529 (S "total" 528),E p nK 532 (S Iu 531),E p xy 534 N,E p Ar 536 (R 256)] 5) (t (tU []) (t (tU []) l l) l) (t (cO Ac 861 Ac 862 zf 863 232 1 0 0 3 507 T 181 508 N N N (R 509) 864 232 865) l l))))
noncomputable def tree (p:Params):PySem.W.BT:=(t (PySem.W.boot_o_0 p) (t (PySem.W.boot_o_1 p) (t (dI [E p Aq 165 (S uq 1074),E p xy 166 N,E p "__package__" 167 N,E p "__loader__" 168 (B N6),E p "__spec__" 169 N,E p Ar 170 (R 6),E p "__builtins__" 171 (R 4),E p "__file__" 173 (S zf 172),E p "__cached__" 174 N,E p AB 193 (R 21),E p yy 213 (R 31),E p yL 229 (R 44),E p yH 245 (R 56),E p yG 270 (R 75),E p yF 295 (R 94),E p yE 320 (R 113),E p yK 345 (R 132),E p yD 372 (R 151),E p yz 388 (R 163),E p "LETTERS" 392 (S "abcdefghijklmnopqrstuvwxyz" 391),E p "LONGEST" 394 (.int (8) 393),E p rR 401 (R 172),E p "is_whole_names" 402 (R 172),E p Ao 411 (R 179),E p Ak 417 (R 184),E p "FIGURES" 421 (S "0123456789" 420),E p "MOST_FIGURES" 423 (.int (200) 422),E p Ae 431 (R 191),E p AA 438 (R 198),E p Av 444 (R 203),E p yI 753 (R 416),E p Aw 763 (R 427),E p yJ 858 (R 502),E p Ac 866 (R 511),E p Az 877 (R 518),E p Au 887 (R 525),E p "Gaps" 1073 (R 663),E p Ay 1082 (R 674),E p Aj 1095 (R 681),E p Ag 1103 (R 688),E p As 1109 (R 693),E p Ax 1117 (R 700),E p Am 1130 (R 707),E p Ai 1136 (R 712),E p Af 1145 (R 719),E p An 1151 (R 724),E p "law" 1160 (R 731)] 47) (t (PySem.W.boot_o_7 p) (t (tU []) (UP p) (UQ p)) (t (fL jx [B sY,Y DN]) (UR p) (US p))) (t (tU []) (t (pF (top 0) AB AB) (UT p) (UU p)) (t (cO yy 198 yy 199 zf 200 5 0 0 0 0 25 F 181 26 N N N N 201 5 202) (UW p) (UX p)))) (t (PySem.W.boot_o_5 p) (t (PySem.W.boot_o_9 p) (t (tU [S "k" 190]) (UY p) (UZ p)) (t (tU []) (U0 p) (U3 p))) (t (cO "<module>" 182 "<module>" 183 zf 184 1 0 0 0 0 11 F 181 12 N N N N 185 1 186) (t (fN (top 0) AB AB N N N "__main__" 164 20) (U4 p) (U5 p)) (t (tU []) (U6 p) (U7 p))))) (t (PySem.W.boot_o_2 p) (t (PySem.W.boot_o_4 p) (t (PySem.W.boot_o_8 p) (t (cN []) (U8 p) (U9 p)) (t (dI [E p qB 203 (S pM 194),E p nK 205 (S yy 204),E p tW 207 (.int (5) 206),E p tX 208 (R 29)] 4) (Vb p) (Vc p))) (t (cN [I 1,I 0,R 20,I 5,I 0,R 27,I 7,I 0,R 40,I 9,I 0,R 52,I 11,I 0,R 64,I 15,I 0,R 83,I 19,I 0,R 102,I 23,I 0,R 121,I 27,I 0,R 140,I 32,I 0,R 159,I 37,I 0,R 171,I 40,I 0,R 178,I 42,I 0,R 183,I 49,I 0,R 190,I 53,I 0,R 197,I 57,I 0,R 202,I 61,I 0,R 209,I 190,I 0,R 426,I 192,I 0,R 433,I 232,I 0,R 510,I 235,I 0,R 517,I 251,I 0,R 524,I 259,I 0,R 531,I 337,I 0,R 673,I 339,I 0,R 680,I 356,I 0,R 687,I 358,I 0,R 692,I 361,I 0,R 699,I 364,I 0,R 706,I 371,I 0,R 711,I 385,I 0,R 718,I 394,I 0,R 723,I 410,I 0,R 730]) (t (cO AB 187 AB 188 zf 189 1 1 0 0 3 15 T 181 16 N (R 17) (R 18) (R 19) 191 1 192) (Vd p) (Vf p)) (t (sL rQ [o (R 27),o (R 3),o (R 24),none,o (S pM 194),none,o (R 0)]) (Vh p) (LH p)))) (t (PySem.W.boot_o_6 p) (t (PySem.W.boot_o_10 p) (t (tU []) (Vj p) (Vk p)) (t (cN []) (Vl p) (Vm p))) (t (sL rQ [o (R 13),o (R 3),o (R 3),none,o (S "__main__" 164),none,o (R 0)]) (t (tU [Y Ej]) (Vn p) (Vo p)) (t (dI [E p qB 203 (S pM 194),E p tW 207 (.int (5) 206),E p tX 208 (R 29),E p yC 210 (R 32),E p xy 211 N] 3) (Vp p) (Vq p))))))
noncomputable def Vr (p:Params):PySem.W.BT:=((D9 15 1 0 (tree p)).set 3 fun _=>PySem.W.boot_o_3 p).set 12 fun _=>cN []
noncomputable def Vs (p:Params):PySem.W.BT:=((D9 15 1 0 (tree p)).set 3 fun _=>PySem.W.boot_o_3 p).set 12 fun _=>cN []
noncomputable def Vu (p:Params):PySem.W.BT:=((D9 519 1 0 (tree p)).set 3 fun _=>dI [E p "__name__" 165 (S "holeshift.gaps" 859),E p "__doc__" 166 N,E p "__package__" 167 N,E p "__loader__" 168 (B N6),E p "__spec__" 169 N,E p "__annotations__" 170 (R 6),E p "__builtins__" 171 (R 4),E p "__file__" 173 (S zf 172),E p "__cached__" 174 N,E p "_wall" 193 (R 21),E p "ShiftError" 213 (R 31),E p "BadInput" 229 (R 44),E p "NoAnswer" 245 (R 56),E p "BadName" 270 (R 75),E p "BadAmount" 295 (R 94),E p "BadItem" 320 (R 113),E p "BadGaps" 345 (R 132),E p "BadText" 372 (R 151),E p "NoDivisor" 388 (R 163),E p "LETTERS" 392 (S "abcdefghijklmnopqrstuvwxyz" 391),E p "LONGEST" 394 (.int (8) 393),E p "is_whole" 401 (R 172),E p "is_whole_names" 402 (R 172),E p "is_between" 411 (R 179),E p "is_name" 417 (R 184),E p "FIGURES" 421 (S "0123456789" 420),E p "MOST_FIGURES" 423 (.int (200) 422),E p "common_divisor" 431 (R 191),E p "halves_of" 438 (R 198),E p "figures_of" 444 (R 203),E p "Amount" 753 (R 416),E p "is_part" 763 (R 427),E p "Linear" 858 (R 502),E p "keys_in_order" 866 (R 511),E p "nonzero_gaps" 877 (R 518)] 35).set 12 fun _=>cN [I 1,I 0,R 20,I 5,I 0,R 27,I 7,I 0,R 40,I 9,I 0,R 52,I 11,I 0,R 64,I 15,I 0,R 83,I 19,I 0,R 102,I 23,I 0,R 121,I 27,I 0,R 140,I 32,I 0,R 159,I 37,I 0,R 171,I 40,I 0,R 178,I 42,I 0,R 183,I 49,I 0,R 190,I 53,I 0,R 197,I 57,I 0,R 202,I 61,I 0,R 209,I 190,I 0,R 426,I 192,I 0,R 433,I 232,I 0,R 510,I 235,I 0,R 517]
noncomputable def Vv (p:Params):PySem.W.BT:=tree p
end Z
noncomputable def lit (w:World) (os:OsState):PySem.W.SharedT:=⟨Z.tree w.params,732,{},⟨[]⟩,{},1161,os⟩
section
open HandSHeadRun PySem.W PySem.Calls
noncomputable def Kz (w:World) (os:OsState):PySem.W.SharedT:=⟨Z.Vr w.params,15,{},⟨[]⟩,{},187,os⟩
noncomputable def KA (w:World) (os:OsState):PySem.W.SharedT:=⟨Z.Vs w.params,15,{},⟨[]⟩,{},187,os⟩
noncomputable def KC (w:World) (os:OsState):PySem.W.SharedT:=⟨Z.Vu w.params,519,{},⟨[]⟩,{},878,os⟩
noncomputable def KD (w:World) (os:OsState):PySem.W.SharedT:=⟨Z.Vv w.params,732,{},⟨[]⟩,{},1161,os⟩
abbrev yM:List Stmt:=behindTheImports sX.prog
abbrev l1:List Stmt:=yM.take 31
abbrev l2:List Stmt:=yM.drop 31
noncomputable abbrev Iv:Env:={scope:=sX.prog.main.scope,locals:=mainNs,globals:=mainNs,cells:=[],code:=.ref 13,frame:=some 14}
noncomputable abbrev Iw:Code:=.body yM Iv
noncomputable def AD (P:Params):PySem.W.BT:=match putAll (boot_heap P).objs.toList .nil 0 with
 |some (t,_)=>t
 |none=>.nil
theorem N7 (w:World):putAll (boot_heap w.params).objs.toList .nil 0=some (AD w.params,(boot_heap w.params).objs.size):=by kernel_rfl
noncomputable def N8 (w:World) (os:OsState):PySem.W.SharedT:=⟨AD w.params,(boot_heap w.params).objs.size,(boot_heap w.params).life,#[],boot_drawn,boot_toks,os⟩
theorem Fb (w:World) (os:OsState):(N8 w os).abs=⟨boot_heap w.params,#[],boot_drawn,boot_toks,os⟩:=by
 show (⟨absHeap (AD w.params) (boot_heap w.params).objs.size (boot_heap w.params).life,#[],boot_drawn,boot_toks,os⟩:Shared)=_
 rw [putAll_heap (N7 w)]
abbrev LJ:Nat:=12+(1+(20000+(20000+2)))
theorem LK (w:World) (os:OsState):NG (stepQ (denQ tabQ) sX.prog w) (boot_heap w.params).objs.size (bootAnn w) 12 (N8 w os) (topStub sX.prog)=some (Kz w os,⟨denQ tabQ Iw,Iw,⟨0,0,0,0⟩,[topFrame ⟨0,0,0,0⟩]⟩):=by kernel_rfl
theorem LL (w:World) (os:OsState):vn (stepQ (denQ tabQ) sX.prog w) (boot_heap w.params).objs.size (bootAnn w) 1 (Kz w os) (blockOf yM Iv Iw ⟨0,0,0,0⟩ [topFrame ⟨0,0,0,0⟩])=some (.next,KA w os,Iw,⟨0,0,0,0⟩):=by kernel_rfl
theorem LN (w:World) (os:OsState):vn (stepQ (denQ tabQ) sX.prog w) (boot_heap w.params).objs.size (bootAnn w) 20000 (KA w os) (oZ l1 Iv Iw ⟨0,0,0,0⟩ ⟨0,0,0,0⟩)=some (.next,KC w os,Iw,⟨235,0,250,16⟩):=by kernel_rfl
theorem LP (w:World) (os:OsState):vn (stepQ (denQ tabQ) sX.prog w) (boot_heap w.params).objs.size (bootAnn w) 20000 (KC w os) (oZ l2 Iv Iw ⟨235,0,250,16⟩ ⟨0,0,0,0⟩)=some (.next,KD w os,Iw,⟨410,0,415,15⟩):=by kernel_rfl
theorem LQ (w:World) (os:OsState):goF (stepQ (denQ tabQ) sX.prog w) (boot_heap w.params).objs.size (bootAnn w) 2 (KD w os) ⟨doneF .next,Iw,⟨410,0,415,15⟩,[topFrame ⟨0,0,0,0⟩]⟩=some (lit w os):=by kernel_rfl
theorem Iz (w:World):Bl sX.prog LJ lit w:=fun os=>by
 rw [← Fb w os]
 exact CH (List.take_append_drop 31 yM).symm (LK w os) (LL w os) (LN w os) (LP w os) (LQ w os)
theorem Q4 (w:World):Bl sX.prog LJ lit w:=Iz w
theorem Q5:Td sX qv names lit:=fun w os=>by kernel_rfl
theorem N9:Ky 30000 P7 lit:=fun w os=>by kernel_rfl
theorem Oa:Ky 30000 P8 lit:=fun w os=>by kernel_rfl
theorem Ob:Ky 30000 P9 lit:=fun w os=>by kernel_rfl
theorem Oc:Ky 30000 Qa lit:=fun w os=>by kernel_rfl
theorem Q6:Te 30000 N4 lit:=fun w os=>by kernel_rfl
theorem Q7:QT hk ob lit:=Lj (z6 N9 (z6 Oa (z6 Ob Oc))) Q6
end
end zW
namespace HS
open PySem PySem.Spec PyProof.Rows L2
structure Rm (k:Nat) (A:Around):Prop where
 room:Room k A
 gd:A.guards=some []
theorem Rm.mono {j k:Nat} {A:Around} (r:Rm k A) (h:j≤k):Rm j A:=⟨r.room.mono h,r.gd⟩
theorem Rm.deeper {k:Nat} {A:Around} (r:Rm (k+1) A) (env:Env):Rm k (A.deeper env):=⟨r.room.deeper env,r.gd⟩
theorem Rm.make {k:Nat} {A:Around} (r:Rm (k+1) A) (C:Addr) (us:List Value) (kw:List (Str×Value)):Rm k (A.under (.builtin "type.__call__" ⟨.ref C::us,kw⟩)):=
 ⟨r.room.make C us kw,by simp [Around.under,Code.guards,Code.isGuard,guardIds,pushGuards,r.gd]⟩
structure gG (P:Program) (w:World) (K:Frag) (mg:Str→Option Value) (base:Heap) (k:Nat) (f:Addr) (fd:FuncData) (ps:List Str) (sp:Sp):Prop where
 len:∀ vs H Q E,sp vs H Q E→vs.length=ps.length
 run:∀ (A:Around) (outer:List Env) (s:Shared) (H:Hp) (args:Args) (us:List Value) (vs:List V) (Q:VK) (E:XK),Rm k A→Env0 P w K mg base A outer s H→
  BindsTo s fd args (ps.zip us)→Vals vs us→sp vs H Q E→codeAny (model P w) A (.call (.ref f) args) (CR (L2.CX P w) outer P w H s Q E) s
section
variable {P:Program} {w:World} {K:Frag} {mg:Str→Option Value} {base:Heap} {k:Nat} {f:Addr} {fd:FuncData} {ps:List Str} {sp:Sp}
theorem gG.imp {sp':Sp} (F:gG P w K mg base k f fd ps sp) (h:∀ vs H Q E,sp' vs H Q E→sp vs H Q E):gG P w K mg base k f fd ps sp':=
 ⟨fun vs H Q E q=>F.len vs H Q E (h _ _ _ _ q),fun A outer s H args us vs Q E hr he hb hv hs=>F.run A outer s H args us vs Q E hr he hb hv (h _ _ _ _ hs)⟩
theorem Tg {name qual:Str} {params:Arguments} {body:List Stmt} {scope:Scope} {dV kV doc pm cdv ct oc:Value} {an od:Option Addr} {osl:Array (Option Value)} {N:List Str}
  (lk:K.lookup f=some ⟨oc,od,.func (fnOf name qual params body scope dV kV doc pm an cdv ct),osl⟩) (hcd:PySem.W.codeIn K cdv qual=true) (S:FnScope N ps scope) (len:∀ vs H Q E,sp vs H Q E→vs.length=ps.length)
  (hbody:∀ (A:Around) (outer:List Env) (s:Shared) (H:Hp) (vs:List V) (Q:VK) (E:XK),Rm k (A.deeper (envOfC qual scope s.heap.objs.size f cdv))→sp vs H Q E→
   ∃ t,PSs (cxOf (L2.CX P w) P w K mg base N qual scope f cdv A outer s H E) body t∧t {nx:=fun _ H'=>Q .non H',rt:=Q} (start N vs) H) :
  gG P w K mg base (k+1) f (fnOf name qual params body scope dV kV doc pm an cdv ct) ps sp:=by
 constructor
 ·exact len
 intro A outer s H args us vs Q E hr e0 hb r hsp
 have KG:∀ b o,base.get? b=some o→s.heap.get? b=some o:=fun b o e=>(e0.bs b o e).1
 have KX:K.In s.heap:=e0.mod.kin.keeps KG
 have hkind:∀ y∈ps.zip us,scope.names.lookup y.1=some .local∨(scope.names.lookup y.1=some .cell∧((cellsFrom (s.heap.objs.size+1) scope.names []).lookup y.1).isSome=true):=by
  intro y hy
  have hm:y.1∈ps:=(List.of_mem_zip (a:=y.1) (b:=y.2) hy).1
  rcases S.par y.1 hm with q |q
  ·exact .inl q
  ·exact .inr ⟨q,PySem.W.cellsFrom_some _ _ _ (.inl q)⟩
 refine codeAny_call_function hr.room.depth (KX _ _ lk) rfl S.co S.gen rfl (PySem.W.codeRec_of KX hcd) (hb _ _ _ _ (wpAny_newFunctionEnv_cells S.kind hkind ?_))
 intro env he s1 x
 subst he
 constructor
 ·exact (e0.mod.nolimit.keeps KG).keeps x.toInCall.keep
 obtain ⟨t,ht,hq⟩:=hbody A outer s H vs Q E (hr.deeper _) hsp
 have I:Inv (cxOf (L2.CX P w) P w K mg base N qual scope f cdv A outer s H E) [] (start N vs) H s1:=inv_start S hr.room.hd e0 (len _ _ _ _ hsp) r x
 refine codeAny_func (wpAny_mono (ht.run [] s1 _ H _ I hq) ?_ fun _ _ z=>z)
 intro fl s' hs
 cases fl with
 |ret u=>
  obtain ⟨v,_,H',J,rv,q⟩:=hs
  exact ⟨v,H',J.os,J.bare,J.base,J.hok,rv,q⟩
 |next=>
  obtain ⟨_,H',J,q⟩:=hs
  exact ⟨.non,H',J.os,J.bare,J.base,J.hok,rfl,q⟩
 |brk=>exact hs.elim fun _ z=>z.elim fun _ z=>z.2.elim
 |cont=>exact hs.elim fun _ z=>z.elim fun _ z=>z.2.elim
theorem Fun.pA {x qual:Str} {st:Stmt} {N:List Str} (F:Fun K x qual st f fd) (S:FnScope N ps (defScope st)) (len:∀ vs H Q E,sp vs H Q E→vs.length=ps.length)
  (hbody:∀ (cdv:Value) (A:Around) (outer:List Env) (s:Shared) (H:Hp) (vs:List V) (Q:VK) (E:XK),Rm k (A.deeper (envOfC qual (defScope st) s.heap.objs.size f cdv))→sp vs H Q E→
   ∃ t,PSs (cxOf (L2.CX P w) P w K mg base N qual (defScope st) f cdv A outer s H E) (defBody st) t∧t {nx:=fun _ H'=>Q .non H',rt:=Q} (start N vs) H) :
  gG P w K mg base (k+1) f fd ps sp:=by
 obtain ⟨oc,od,kV,doc,pm,an,cdv,ct,osl,rfl,lk,hcd⟩:=F.ex
 exact Tg lk hcd S len fun A outer s H vs Q E=>hbody cdv A outer s H vs Q E
end
def Th:WX:=fun _ _ _ _=>False
theorem ay {X:Cx}:Takes X Th:=fun u s' x=>by
 obtain ⟨a,B,sI,pins,σ,H,cls,d,_,_,_,_,_,_,_,_,z⟩:=x
 exact z.elim
theorem LR {X:Cx}:Passes (L2.CX X.prog X.w) X (fun _ _ _=>False):=by
 intro pins σ H s e s' I h
 obtain ⟨a,B,H',cls,d,_,_,_,_,_,_,_,h⟩:=h
 exact h.elim
section
variable {X:Cx} {pins:List (Addr×Obj)} {σ:L2.St} {H:Hp} {s s':Shared} {W:WX} {Q:VK} {k:Nat} {f:Addr} {fd:FuncData} {ps ks:List Str} {sp:Sp}
abbrev Fc (W:WX) (σ:L2.St):XK:=fun cls d H'=>W cls d σ H'
theorem xA {r:Result} (tk:Takes X W) (I:Inv X pins σ H s) (hq:CR (L2.CX X.prog X.w) X.stack X.prog X.w H s Q (Fc W σ) r s') :
  (match r with |.ok (.ret u)=>EP X pins σ Q u s' |.ok _=>False |.error e=>X.xe e s'):=by
 cases r with
 |error e=>exact tk e s' (XE.of_call I (fun _ _ _ h=>h) hq)
 |ok fl=>cases fl with
  |ret u=>exact I.after hq
  |next=>exact hq
  |brk=>exact hq
  |cont=>exact hq
theorem CP {us gs:List Value} {kw:List (Str×Value)} {vs:List V} (F:gG X.prog X.w X.K X.mg X.base k f fd ps sp) (hr:Rm k X.A) (tk:Takes X W)
  (I:Inv X pins σ H s) (hb:BindsTo s fd ⟨us,kw⟩ (ps.zip gs)) (r:Vals vs gs) (h:sp vs H Q (Fc W σ)):wpAny (model X.prog X.w) X.A (call (.ref f) us kw) (EP X pins σ Q) X.xe s:=by
 refine wpAny_call (codeAny_mono (F.run X.A X.stack s H ⟨us,kw⟩ gs vs Q _ hr I.env0 hb r h) fun r s' hq=>?_)
 have z:=xA tk I hq
 cases r with
 |error e=>exact z
 |ok fl=>cases fl <;> exact z
variable {e:Expr} {es:List Expr} {kws:List Keyword} {t ta:TA} {ds:List Value} {dvs:List V} {x:Str} {p pos:Pos}
def tG (sp:Sp) (dvs:List V) (W:WX) (t:TA):TE:=fun σ H Q=>t σ H fun vs H1=>sp (vs++dvs) H1 Q (Fc W σ)
theorem cY (F:gG X.prog X.w X.K X.mg X.base k f fd ps sp) (hr:Rm k X.A) (tk:Takes X W) (hm:X.mg x=some (.ref f)) (hk:keepIn X.K (.ref f)=true) (hb:Binds X.K fd ps ds) (hd:Vals dvs ds)
  (ha:PA X (e::es) t) (hg:Gl X x:=by rfl) (hdb:(x == ("__debug__" : Str))=false:=by decide)
  (he:starEach (e::es) X.env=(false,eval e X.env)::starEach es X.env:=by rfl) (hpl:(backTo pos (starEach es X.env)).any (·.1)=false:=by rfl) :
  PE X (.Call (.Name x p) (e::es) [] pos) (tG sp dvs W t):=by
 constructor
 intro pins s σ H Q I h
 refine wpAny_Call_Name_kw (ld_glob I hg hm (PySem.W.callWith_K (h₀:=X.base) I.ok.mod.kin hk (thn (ha.run pos pins s σ H _ I h) ?_) he hpl) hdb)
 rintro us s1 ⟨vs,H1,I1,r,q⟩
 have r2:=r.append hd
 have hl:(us++ds).length=ps.length:=by rw [← r2.length];exact F.len _ _ _ _ q
 exact ⟨I1.kIn,CP F hr tk I1 (hb s1 us I1.kIn hl) r2 q⟩
structure Bnd (K:Frag) (fd:FuncData) (ps:List Str) (n:Nat) (ks:List Str) (g:List Value→List Value→List Value) (gV:List V→List V→List V):Prop where
 to:∀ (s:Shared) (us ws:List Value),K.In s.heap→us.length=n→ws.length=ks.length→BindsTo s fd ⟨us,ks.zip ws⟩ (ps.zip (g us ws))
 rel:∀ {vs:List V} {us:List Value} {zs:List V} {ws:List Value},vs.length=n→zs.length=ks.length→Vals vs us→Vals zs ws→Vals (gV vs zs) (g us ws)
variable {n:Nat} {g:List Value→List Value→List Value} {gV:List V→List V→List V}
end
section
variable {X:Cx} {pins:List (Addr×Obj)} {σ:L2.St} {H:Hp} {s s':Shared}
theorem adopt (I:Inv X pins σ H s) {a:Addr} {o:HO} {ob:Obj} {vs:Array Value} (h0:X.s_0.heap.get? a=none) (hs:s.heap.get? a=some ob) (hd:ob.data=.fields vs) (na:H a=none) (nL:a≠X.env.locals) (nF:a∉X.fs)
  (np:∀ p∈X.pn++pins,p.1≠a) (new:ObjOk X.prog X.w (upd H a o) s.heap a o):Inv X pins σ (upd H a o) s:=by
 have off:∀ {b:Addr} {u:HO},H b=some u→b≠a:=fun {b u} e z=>by rw [z,na] at e;cases e
 have Q8:∀ {b:Addr} {u:Obj},X.s_0.heap.get? b=some u→b≠a:=fun {b u} e z=>by rw [z,h0] at e;cases e
 have Q9:∀ x c,X.env.cells.lookup x=some c→c≠a:=fun x c e z=>by
  obtain ⟨v,o',e1,e2⟩:=I.cell x c e
  rw [z,hs] at e1
  cases e1
  rw [hd] at e2
  cases e2
 refine ⟨I.ok,I.os,I.bare,?base,I.loc,I.cell,?free,?freeC,?pin,?hok,I.len⟩
 case base=>exact
  {keep:=I.base.keep
   slot:=I.base.slot
   there:=I.base.there
   free:=fun b u e n hx=>by rw [upd_ne (Q8 e)];exact I.base.free b u e n hx
   tups:=fun b xs e=>by have q:=I.base.tups b xs e;rw [upd_ne (off q)];exact q
   frzs:=fun b u v e=>by have q:=I.base.frzs b u v e;rw [upd_ne (off q)];exact q
   tbls:=fun b ps e=>by obtain ⟨m,q⟩:=I.base.tbls b ps e;exact ⟨m,by rw [upd_ne (off q)];exact q⟩}
 case free=>rw [upd_ne (Ne.symm nL)];exact I.free
 case freeC=>intro x c e;rw [upd_ne (Q9 x c e)];exact I.freeC x c e
 case pin=>
  intro p hp
  obtain ⟨q1,q2,q3⟩:=I.pin p hp
  exact ⟨q1,by rw [upd_ne (np p hp)];exact q2,q3⟩
 case hok=>
  intro b u e
  by_cases hb:b=a
  ·subst hb
   rw [upd_same] at e
   cases e
   exact new
  ·rw [upd_ne hb] at e
   exact (I.hok b u e).stay (fun c v _ q=>q) (fun c q=>by rw [upd_ne (off q)];exact q) fun c xs q=>by rw [upd_ne (off q)];exact q
def Bp (a:Addr) (cls:Value) (d:Option Addr):HO:=.ext fun h=>∃ oe vs,h.get? a=some oe∧oe.cls=cls∧oe.dict=d∧oe.data=.fields vs
theorem LS {P:Program} {w:World} {H:Hp} {h:Heap} {a:Addr} {cls:Value} {d:Option Addr} {oe:Obj} {vs:Array Value} (e:h.get? a=some oe) (z:Zc cls d oe) (hd:oe.data=.fields vs):ObjOk P w H h a (Bp a cls d):=
 ⟨⟨oe,vs,e,z.1,z.2,hd⟩,⟨oe,e⟩,fun h1 h2 x k=>by
  obtain ⟨o,v,e,r⟩:=x
  exact ⟨o,v,k _ e,r⟩⟩
theorem Fd {P:Program} {w:World} {H:Hp} {h:Heap} {a:Addr} {cls:Value} {d:Option Addr} (hok:HOk P w H h) (e:H a=some (Bp a cls d)):∃ oe vs,h.get? a=some oe∧oe.cls=cls∧oe.dict=d∧oe.data=.fields vs:=by
 have x:ObjOk P w H h a (.ext fun h=>∃ oe vs,h.get? a=some oe∧oe.cls=cls∧oe.dict=d∧oe.data=.fields vs):=hok a _ e
 exact x.1
def Ra (K:Frag) (c:Value) (i:Nat) (ts:Addr→TS) (Wout:WX) (D:Ends):WX:=fun cls d σ H=>
 ∃ b,PySem.W.exmOne K cls c=some b∧
  (b=true→∀ a,H a=none→ts a {nx:=fun σ' H'=>D.nx (σ'.set i none) H',rt:=D.rt,bk:=fun σ' H'=>D.bk (σ'.set i none) H',ct:=fun σ' H'=>D.ct (σ'.set i none) H' } (σ.set i (some (.ref a))) (upd H a (Bp a cls d)))∧
  (b=false→Wout cls d σ H)
variable {x n:Str} {c:Value} {i:Nat} {body suite:List Stmt} {b₀:Stmt} {np pos pos':Pos} {tb:WX→TS} {ts:Addr→TS} {Wout:WX}
theorem CQ (hs:X.stack=X.env::X.outer) (hf:X.env.frame=some X.env.locals) (hex:X.ex=[]) (hN:X.N.Nodup) (hi:X.N[i]? = some n) (hln:X.env.kindOf n=some .local) (hc:Names X x c) (tk:Takes X Wout)
  (hb:∀ (W:WX) (pn:List (Addr×Obj)) (xe:Value→Shared→Prop),Takes (X.tr pn xe) W→PassesOwn (model X.prog X.w) X.A X.env xe→PSs (X.tr pn xe) body (tb W))
  (hsu:∀ (a:Addr) (pn:List (Addr×Obj)),PSs (X.suite a pn) (b₀::suite) (ts a)) :
  PS X (.Try body [.ExceptHandler (some (.Name x np)) (some n) (b₀::suite) pos'] [] [] pos) (fun D σ H=>tb (Ra X.K c i ts Wout D) D σ H):=by
 constructor
 intro pins s σ H D I h
 have ok:=I.ok
 have hfr:X.A.frames=some (X.env::X.outer):=by rw [ok.frames,hs]
 let xe:Value→Shared→Prop:=fun e s₁=>wpAny (model X.prog X.w) X.A (noteFrame e X.env) (fun _ s₂=>wpAny (model X.prog X.w) X.A (setFlight e none) (fun _ s₃=>
  wpAny (model X.prog X.w) X.A (handleBy e X.env [.ExceptHandler (some (.Name x np)) (some n) (b₀::suite) pos']) (SP X pins D) X.xe s₃) X.xe s₂) X.xe s₁
 refine wpAny_Try_except (wpAny_mono ((hb (Ra X.K c i ts Wout D) (X.pn++pins) xe ?LU PassesOwn.looking).run [] s σ H D (I.toTry _) h) ?through fun e s1 he=>he)
 case through=>
  intro f s1 hsp
  cases f with
  |next=>obtain ⟨σ',H',J,q⟩:=hsp;exact wpAny_execs_nil ⟨σ',H',J.ofTry ok,q⟩
  |brk=>obtain ⟨σ',H',J,q⟩:=hsp;exact ⟨σ',H',J.ofTry ok,q⟩
  |cont=>obtain ⟨σ',H',J,q⟩:=hsp;exact ⟨σ',H',J.ofTry ok,q⟩
  |ret u=>obtain ⟨v,σ',H',J,r,q⟩:=hsp;exact ⟨v,σ',H',J.ofTry ok,r,q⟩
 case LU=>
  intro u s' xx
  obtain ⟨a,B,sI,pins',σ',H',cls,d,rfl,J',nb,up,Ti,na,os,ag,b,hb1,hyes,hno⟩:=xx
  have J:Inv X pins σ' H' sI:=J'.ofTry ok
  rw [show (X.tr (X.pn++pins) xe).stack=X.env::X.outer from hs] at Ti
  show wpAny (model X.prog X.w) X.A (noteFrame (.ref a) X.env) _ _ _
  refine Sky.land Zc.steady hfr hf Ti fun h3 LV Rb=>?_
  have J3:Inv X pins σ' H' {s' with heap:=h3}:=J.landed nb LV.1 (up.trans Rb) os ag
  obtain ⟨Tj,Wq,Rc,Vw,Tn⟩:=LV.there
  have Qg:a∉frs (X.env::X.outer):=fun hm=>by
   obtain ⟨_,o',e',hnf⟩:=LV.2.2.1.mem hm
   rw [Rc] at e'
   cases e'
   exact hnf _ Tn
  have nL:a≠X.env.locals:=fun z=>Qg (List.mem_filterMap.mpr ⟨X.env,List.mem_cons_self,by rw [hf,z]⟩)
  have nF:a∉X.fs:=fun hm=>by
   obtain ⟨e,he,q⟩:=List.mem_filterMap.mp hm
   exact Qg (List.mem_filterMap.mpr ⟨e,List.mem_cons_of_mem _ he,q⟩)
  -- Lk exception was made behind Lk entry
  have To:B.get? a=none:=LV.2.1
  have h0:X.s_0.heap.get? a=none:=by
   cases e:X.s_0.heap.get? a with
   |none=>rfl
   |some o=>
    obtain ⟨o',e'⟩:=J.base.there a o e (by rw [hex];simp)
    have q:=nb a o' e' (by rw [show (X.tr (X.pn++pins) xe).stack=X.env::X.outer from hs];exact Qg)
    rw [To] at q
    cases q
  have Vx:sI.heap.get? a=none:=by
   cases e:sI.heap.get? a with
   |none=>rfl
   |some o'=>
    have q:=nb a o' e (by rw [show (X.tr (X.pn++pins) xe).stack=X.env::X.outer from hs];exact Qg)
    rw [To] at q
    cases q
  have Rf:∀ p∈X.pn++pins,p.1≠a:=fun p hp z=>by
   obtain ⟨q,_⟩:=J.pin p hp
   rw [z,Vx] at q
   cases q
  have S3:=J3.suite Rc Tn na nL nF
  refine wpAny_handleBy_cons (codeAny_handlers_test ?_) (by intro q;cases q)
  have LT:PySem.W.Looks (model X.prog X.w) h3 (typeOf (.ref a)) cls:=fun A Q E s k q=>wpAny_typeOf_ref (k _ _ Rc) (by rw [Vw.1];exact q)
  have LM:=PySem.W.exm_one (M:=model X.prog X.w) (J3.kIn) LT hb1
  have test:∀ {Q:Value→Shared→Prop} {E:Value→Shared→Prop},Q c {s' with heap:=h3}→wpAny (model X.prog X.w) (X.A.mark (some (.ref a))) (eval (.Name x np) X.env) Q E {s' with heap:=h3}:=by
   intro Q E q
   obtain ⟨hg,Od,hm |⟨hm,hv,hnn⟩⟩:=hc
   ·exact ld_glob (X:=X.suite a ((a,Tj)::(X.pn++pins))) S3 hg hm q Od
   ·exact ld_blt (X:=X.suite a ((a,Tj)::(X.pn++pins))) S3 hg hm hv q hnn Od
  refine test (LM.here ?_)
  cases b with
  |true=>
   refine codeAny_handlers_suite_as (HandSPX.lands_againZ LV fun h4 Tp Rg=>?_)
   have J4:Inv X pins σ' H' {s' with heap:=h4}:=J.landed nb Tp.1 ((up.trans Rb).trans Rg) os ag
   obtain ⟨Wr,Ws,Tq,Vy,Tr⟩:=Tp.there
   have K4:Inv X pins σ' (upd H' a (Bp a cls d)) {s' with heap:=h4}:=adopt J4 h0 Tq Tr na nL nF Rf (LS Tq Vy Tr)
   have S4:Inv (X.suite a (X.pn++pins)) [] σ' (upd H' a (Bp a cls d)) {s' with heap:=h4}:=
    ⟨K4.ok.suite _ _,K4.os,K4.bare,K4.base,K4.loc,K4.cell,K4.free,K4.freeC,fun p hp=>K4.pin p (by rw [List.append_nil] at hp;exact hp),K4.hok,K4.len⟩
   refine store_ok (X:=X.suite a (X.pn++pins)) (v:=.ref a) S4 hN hi (.inl hln) rfl (fun s5 S5=>?_) (.inr hln)
   refine wpAny_mono ((hsu a (X.pn++pins)).run [] s5 _ _ _ S5 (hyes rfl a na)) ?_ (fun _ _ z=>False.elim z)
   have end_:∀ {σ6:L2.St} {H6:Hp} {s6:Shared} {Q:Shared→Prop},Inv (X.suite a (X.pn++pins)) [] σ6 H6 s6→(∀ s7,Inv X pins (σ6.set i none) H6 s7→Q s7)→
     wpAny (model X.prog X.w) X.A (do bindName X.env n .none;unbindBehindTheSuite X.env n pos') (fun _ s7=>Q s7) X.xe s6:=by
    intro σ6 H6 s6 Q S6 hq
    have J6:Inv X pins σ6 H6 s6:=⟨ok,S6.os,S6.bare,S6.base,S6.loc,S6.cell,S6.free,S6.freeC,fun p hp=>S6.pin p (List.mem_append_left _ hp),S6.hok,S6.len⟩
    exact gone_ok J6 hN hi hln hq
   intro f s6 hsp
   cases f with
   |next=>obtain ⟨σ6,H6,S6,q6⟩:=hsp;exact end_ S6 fun s7 J7=>⟨_,_,J7,q6⟩
   |brk=>obtain ⟨σ6,H6,S6,q6⟩:=hsp;exact end_ S6 fun s7 J7=>⟨_,_,J7,q6⟩
   |cont=>obtain ⟨σ6,H6,S6,q6⟩:=hsp;exact end_ S6 fun s7 J7=>⟨_,_,J7,q6⟩
   |ret u=>obtain ⟨v6,σ6,H6,S6,r6,q6⟩:=hsp;exact end_ S6 fun s7 J7=>⟨_,_,_,J7,r6,q6⟩
  |false=>
   show wpAny _ X.A (handleBy (.ref a) X.env []) _ _ _
   refine wpAny_handleBy_nil ?_
   obtain ⟨k1,k2,k3,oe,vs,T,oT,ts',he,hz,hd,h1,hr⟩:=id LV
   unfold PySem.passOn
   refine wpAny_bind (wpAny_field he hd h1 ?_)
   rw [if_neg (show ¬ ((Value.ref T == Value.none)=true) from by simp)]
   have fin:wpAny (model X.prog X.w) X.A (setFlight (.ref a) X.env.frame) (fun _ s4=>wpAny (model X.prog X.w) X.A (throw (.ref a):Sem Flow) (SP X pins D) X.xe s4) X.xe {s' with heap:=h3}:=by
    rw [hf]
    refine HandSPX.setFlight_upZ LV fun h4 Vz Rg=>wpAny_throw (tk _ _ ?_)
    exact ⟨a,B,sI,pins,σ',H',cls,d,rfl,J,nb,(up.trans Rb).trans Rg,.inr (.inr (by rw [hs];exact Vz)),na,os,ag,hno rfl⟩
   first
    |exact wpAny_bind (wpAny_pure (wpAny_bind fin))
    |exact wpAny_bind fin
def Tt (K:Frag) (f:Str) (te:TE):TE:=fun σ H Q=>te σ H fun x H1=>∃ (a C dd:Addr) (fs:List (Str×V)) (v:V),x=.ref a∧H1 a=some (Bp a (.ref C) (some dd))∧H1 dd=some (.xd fs)∧fs.lookup f=some v∧XfC K C∧
 findIn K (.ref C) f=some none∧Q v H1
theorem Oe {e:Expr} {te:TE} {f:Str} {pos:Pos} (he:PE X e te) (hb:attributeBase e f X.env (eval e X.env)=eval e X.env:=by rfl):PE X (.Attribute e f pos) (Tt X.K f te):=by
 constructor
 intro pins s σ H Q I h
 refine attr_of hb (thn (he.run pins s σ H _ I h) ?_)
 rintro u s1 ⟨x,H1,I1,rx,a,C,dd,fs,v,rfl,ea,ed,l,T,hno,q⟩
 obtain rfl:u=Value.ref a:=rx
 obtain ⟨oe,vs,h1,h2,h3,h4⟩:=Fd I1.hok ea
 obtain ⟨mA,hns,hr⟩:ObjOk X.prog X.w H1 s1.heap dd (.xd fs):=I1.hok dd _ ed
 obtain ⟨od,ho,hl⟩:=lookIn_ns hns
 obtain ⟨u,hu,ru⟩:=RelO.some_of (v:=v) (o:=mA f) (by rw [← l];exact hr f)
 have J:PySem.W.InstAt s1.heap a oe C (some od):=⟨h1,h2,by unfold PySem.W.notCls;rw [h4] <;> rfl,by rw [h3];exact ho⟩
 exact HandSPX.exc_get I1.kIn J T.ga T.gg T.exC (PySem.W.findObj_own T.hdC hno rfl (by rw [hl,hu])) (handed_of ru) ⟨v,H1,I1.tok _,ru,q⟩
end
def kD:Key→PyData
 |.inl i=>.int i
 |.inr x=>.str x
mutual
inductive Rd (K:Frag) (H:Hp):V→PyData→Prop
 |non:Rd K H .non .none
 |bl (b:Bool):Rd K H (.bl b) (.bool b)
 |int (i:Int):Rd K H (.int i) (.int i)
 |str (x:Str):Rd K H (.str x) (.str x)
 |lst {a:Addr} {xs:List V} {ds:List PyData}:SqL K H a xs→a≠sysModules→KH K H xs ds→Rd K H (.ref a) (.list ds)
 |tup {a:Addr} {xs:List V} {ds:List PyData}:SqT K H a xs→KH K H xs ds→Rd K H (.ref a) (.tuple ds)
 |dct {a:Addr} {ks:List Key} {vs:List V} {ds:List PyData}:L2.Rd H a (.dK (ks.zip vs))→ks.length=vs.length→KH K H vs ds→Rd K H (.ref a) (.dict ((ks.map kD).zip ds))
inductive KH (K:Frag) (H:Hp):List V→List PyData→Prop
 |nil:KH K H [] []
 |cons {v:V} {vs:List V} {d:PyData} {ds:List PyData}:Rd K H v d→KH K H vs ds→KH K H (v::vs) (d::ds)
end
section
variable {K:Frag} {H H':Hp}
theorem Same.tup (e:Same H H') {a:Addr} {xs:List V} (h:SqT K H a xs):SqT K H' a xs:=by
 rcases h with (h |⟨o,h⟩)|h
 ·exact .inl (.inl (e _ _ h))
 ·exact .inl (.inr ⟨o,e _ _ h⟩)
 ·exact .inr h
end
section
variable {X:Cx} {pins:List (Addr×Obj)} {σ:L2.St} {H:Hp} {s:Shared}
structure IA (K:Frag) (C:Addr):Prop where
 hcl:(clsIn K C).isSome=true
 hga:findIn K (.ref C) "__getattribute__" = some (some (.builtin "BaseException.__getattribute__"))
 hgt:findIn K (.ref C) "__getattr__" = some none
 hsub:subIn K (.ref C) (.type "BaseException")=some true
 ha:findIn K (.ref C) "__class__" = some (some (.builtin "object.__class__"))
 hn:PySem.W.specialIn K (.builtin "object.__class__") "__get__" = some (some (.builtin "getset_descriptor.__get__"))
 htk:PySem.W.takesIn K (.builtin "object.__class__")=some true
 hm:mroIn K C (.type "object")=some true
def Fe (h:Heap) (a:Addr) (ks:List V):Prop:=ks.length≤sizeLine∧(a == sysModules)=false∧∃ (o:Obj) (es:Array DictEntry) (ep:Nat),h.get? a=some o∧o.ExactDict∧o.data=.dict es ep∧Paired (fun (k:V) (e:DictEntry)=>RelV k e.key) ks es.toList
def qL (a:Addr) (ks:List V):HO:=.ext fun h=>Fe h a ks
theorem LW {P:Program} {w:World} {H:Hp} {h:Heap} {a:Addr} {ks:List V} (x:Fe h a ks):ObjOk P w H h a (qL a ks):=
 ⟨x,(let ⟨_,_,o,_,_,e,_⟩:=x;⟨o,e⟩),fun _ _ ⟨z,y,o,es,ep,e,r⟩ k=>⟨z,y,o,es,ep,k o e,r⟩⟩
theorem xB {P:Program} {w:World} {H:Hp} {h:Heap} {a:Addr} {ks:List V} {o:Obj} (ok:HOk P w H h) (e:H a=some (.frz o (qL a ks))):h.get? a=some o∧Fe h a ks:=
 let ⟨x,y,_⟩:=(show ObjOk P w H h a (.frz o (qL a ks)) from ok a _ e);⟨x,y⟩
inductive Ty (K:Frag) (H:Hp):V→Value→Prop where
 |x {v:V} {t:Value} (h:TyX K H v t):Ty K H v t
 |exc {a C:Addr} {d:Option Addr} (e:H a=some (Bp a (.ref C) d)) (hd:∀ dd,d=some dd→∃ fs,H dd=some (.xd fs)) (c:IA K C):Ty K H (.ref a) (.ref C)
 |mix {a:Addr} {o:Obj} {ks:List V} (e:H a=some (.frz o (qL a ks))):Ty K H (.ref a) (.type "dict")
theorem IB {x:V} {u t:Value} (I:Inv X pins σ H s) (rx:RelV x u) (ty:Ty X.K H x t):∃ P:Heap→Prop,PySem.W.KitX X.K u t P∧P s.heap∧u≠.builtin "__main__.__loader__#opaque" := by
 cases ty with
 |x h=>exact kit_of I rx h
 |@mix a o ks e=>
  obtain rfl:u=Value.ref a:=rx
  obtain ⟨_,_,_,o',es,ep,h1,h2,_⟩:=xB I.hok e
  exact ⟨_,PySem.W.kitx_dict,⟨o',h1,h2.1⟩,fun z=>nomatch z⟩
 |@exc a C d e hd c=>
  obtain rfl:u=Value.ref a:=rx
  obtain ⟨oe,vs,h1,h2,h3,h4⟩:=Fd I.hok e
  have nc:PySem.W.notCls oe=true:=by unfold PySem.W.notCls;rw [h4] <;> rfl
  cases d with
  |none=>exact ⟨_,PySem.W.kitx_exc (ox:=oe) (od:=none) c.hcl c.hga c.hgt c.hsub c.ha c.hn c.htk c.hm,⟨h1,h2,nc,by rw [h3];trivial⟩,fun z=>nomatch z⟩
  |some dd=>
   obtain ⟨fs,ed⟩:=hd dd rfl
   obtain ⟨mA,hns,hr⟩:ObjOk X.prog X.w H s.heap dd (.xd fs):=I.hok dd _ ed
   obtain ⟨od,ho,hl⟩:=lookIn_ns hns
   exact ⟨_,PySem.W.kitx_exc (ox:=oe) (od:=some od) c.hcl c.hga c.hgt c.hsub c.ha c.hn c.htk c.hm,⟨h1,h2,nc,by rw [h3];exact ho⟩,fun z=>nomatch z⟩
structure Qh (K:Frag) (xs:List V) (H:Hp) (Q:VK):Prop where
 ex:∃ (x c:V) (t u:Value) (b:Bool),xs=[x,c]∧ClsV c u∧Ty K H x t∧kitOne K t u=some b∧Q (.bl b) H
theorem iO:CallR X (.builtin "isinstance") (Qh X.K):=by
 intro pins s σ H xs us Q I r h
 obtain ⟨x,c,t,u,b,rfl,k,ty,e,q⟩:=h.ex
 obtain ⟨u1,u2,rfl,r1,r2⟩:=vals2 r
 obtain rfl:=k.eq r2
 obtain ⟨P,Z,p,hx⟩:=IB I r1 ty
 exact PySem.W.kia_one Z I.kIn p e hx fun tk=>⟨.bl b,H,I.tok tk,rfl,q⟩
end
theorem LX {K:Frag} {H:Hp} {Q:VK} {x c:V} {t u:Value} {b:Bool} (h:ClsV c u) (ty:Ty K H x t) (k:kitOne K t u=some b) (q:Q (.bl b) H):Qh K [x,c] H Q:=⟨⟨x,c,t,u,b,rfl,h,ty,k,q⟩⟩
end HS
namespace HS
open PySem PySem.Spec PyProof.Rows L2
def Of (C:Addr) (f:Str):Sp:=fun vs H Q _=>∃ a v,vs=[.ref a,v]∧H a=some (exo a C none)∧∀ dx,H dx=none→dx≠a→Q .non (upd (upd H dx (exd dx [(f,v)])) a (exo a C (some dx)))
section
variable {P:Program} {w:World} {K:Frag} {mg:Str→Option Value} {base:Heap} {C fI:Addr} {fd:FuncData} {qual f g:Str} {st:Stmt}
theorem Og {N ps:List Str} {sc:Scope} (S:FnScope N ps sc) {x:Str} (h:x∈ps):Vis sc x:=(S.par x h).elim .inl fun z=>.inr (.inl z)
theorem Br (F:Fun K "__init__" qual st fI fd) (S:FnScope ["self",f] ["self",f] (defScope st)) {p1 p2 p3 p4:Pos} (hb:defBody st=[.Assign [.Attribute (.Name "self" p1) f p2] (.Name f p3) p4])
  (T:OexC K C) (no:findIn K (.ref C) f=some none) (hf:(f == ("__debug__" : Str))=false) (hc:(f == ("__classdict__" : Str))=false)
  (hs:∀ env,swapsWith (.Name f p3) (some (.Attribute (.Name "self" p1) f p2)) p4.line env=pure false):FnOk P w K mg base (L2.CX P w) 1 fI fd ["self",f] (Of C f):=by
 refine F.okX S (fun vs H Q E h=>?_) (fun cdv A outer s H vs Q E hr h=>?_)
 ·obtain ⟨a,v,rfl,_⟩:=h
  rfl
 ·obtain ⟨a,v,rfl,ha,k⟩:=h
  rw [hb]
  refine ⟨_,pss_one (ps_ost (pe_var (i:=0) rfl (Og S (by simp))) (pe_var (i:=1) rfl (Og S (by simp)) hf hc) (hs _)),?_⟩
  exact ⟨_,rfl,_,rfl,a,C,rfl,T,no,.inl ⟨ha,fun dx n ne=>k dx n ne⟩⟩
end
structure Oh (P:Program) (w:World) (K:Frag) (mg:Str→Option Value) (base:Heap) (x f:Str) (C fI:Addr) (fd:FuncData):Prop where
 T:OexC K C
 iC:findIn K (.ref C) "__init__" = some (some (.ref fI))
 tI:typeIn K (.ref fI)=some (.type "function")
 gC:mg x=some (.ref C)
 F:FnOk P w K mg base (L2.CX P w) 1 fI fd ["self",f] (Of C f)
 b:Binds K fd ["self",f] []
section
variable {X:Cx} {x f g:Str} {C fI:Addr} {fd:FuncData} {k:Nat} {e:Expr} {es:List Expr} {ta:TA} {p pos pos2:Pos} {W:WX}
theorem IC (H:Hp) {a d:Addr} {u v u':HO} (na:H a=none) (n:d≠a):upd (del (upd (upd (upd H a u) d v) a u') a) d=upd H d:=by
 funext o b
 by_cases hb:b=d
 ·rw [hb,upd_same,upd_same]
 ·rw [upd_ne hb,upd_ne hb]
  by_cases hc:b=a
  ·rw [hc,del_same,na]
  ·rw [del_ne hc,upd_ne hc,upd_ne hb,upd_ne hc]
def VA (ta:TA):TA:=fun σ H Q=>∃ Q0,ta σ H Q0∧∀ vs H',Q0 vs H'→Q vs H'
theorem Oi (h:PA X es ta):PA X es (VA ta):=by
 constructor
 intro pos pins s σ H Q I hq
 obtain ⟨Q0,h0,hm⟩:=hq
 exact thn (h.run pos pins s σ H Q0 I h0) fun us s' ⟨vs,H',J,r,q⟩=>⟨vs,H',J,r,hm _ _ q⟩
theorem mq (R:Oh X.prog X.w X.K X.mg X.base x f C fI fd) (hr:Rm k X.A) (h2:2≤k) (hg:Gl X x) (ha:PA X (e::es) ta)
  (hdb:(x == ("__debug__" : Str))=false:=by decide) (he:starEach (e::es) X.env=(false,eval e X.env)::starEach es X.env:=by rfl) (hpl:(backTo pos (starEach es X.env)).any (·.1)=false:=by rfl) :
  PMk X (.Call (.Name x p) (e::es) [] pos) (fun σ H Q=>ta σ H fun vs H1=>∃ v,vs=[v]∧∀ d,H1 d=none→Q (.ref C) (some d) (upd H1 d (.xd [(f,v)]))):=by
 intro pins s σ H Q I h
 refine pmk_oex R.T R.iC R.tI R.F (hr.room.mono h2) R.b .nil LR hg R.gC (Oi ha) hdb he hpl pins s σ H Q I ⟨_,h,?_⟩
 rintro vs H1 ⟨v,rfl,q⟩
 refine ⟨by simp,fun a na=>⟨a,v,rfl,upd_same,fun dx n ne=>⟨rfl,?_⟩⟩⟩
 have n1:H1 dx=none:=by rw [upd_ne ne] at n;exact n
 refine ⟨dx,_,upd_same,by rw [upd_ne ne,upd_same],n1,?_⟩
 rw [IC H1 na ne]
 exact q dx n1
end
theorem ID {P:Program} {w:World} {outer:List Env} {H:Hp} {s:Shared} {e:Value} {s':Shared} (h:L2.CX P w outer H s (fun _ _ _=>False) e s'):False:=by
 obtain ⟨a,B,H',cls,d,_,_,_,_,_,_,_,h⟩:=h
 exact h.elim
theorem CT {k:Nat} (h:k≤200):Rm k callerA:=
 ⟨⟨rfl,by show 1+300+3*k+5<1000;omega,by show 4+16*k+200<9900;omega⟩,rfl⟩
end HS
namespace HS
open PySem PySem.Spec PyProof.Rows L2
def Sz (n:Nat) (i:Int):Prop:=i.natAbs<2 ^ n
theorem Sz.mono {m n:Nat} {i:Int} (h:Sz m i) (l:m≤n):Sz n i:=Nat.lt_of_lt_of_le h (Nat.pow_le_pow_right (by decide) l)
theorem Sz.of_lt {n:Nat} {i:Int} (h0 : -(2 ^ n:Nat)<i) (h:i<(2 ^ n:Nat)):Sz n i:=by unfold Sz;omega
theorem Sz.neg {n:Nat} {i:Int} (h:Sz n i):Sz n (-i):=by unfold Sz at *;rwa [Int.natAbs_neg]
theorem Sz.mul {m n:Nat} {i j:Int} (h:Sz m i) (g:Sz n j):Sz (m+n) (i*j):=wide_lt h g
theorem Sz.add {m n:Nat} {i j:Int} (h:Sz m i) (g:Sz n j):Sz (max m n+1) (i+j):=by
 have h':Sz (max m n) i:=h.mono (Nat.le_max_left ..)
 have g':Sz (max m n) j:=g.mono (Nat.le_max_right ..)
 unfold Sz at *
 rw [Nat.pow_succ]
 omega
theorem Sz.sub {m n:Nat} {i j:Int} (h:Sz m i) (g:Sz n j):Sz (max m n+1) (i - j):=by
 rw [Int.sub_eq_add_neg]
 exact h.add g.neg
theorem Sz.abs {n:Nat} {i:Int} (h:Sz n i):Sz n (if i<0 then -i else i):=by
 split
 ·exact h.neg
 ·exact h
theorem Sz.le {n:Nat} {i j:Int} (h:Sz n j) (l:i.natAbs≤j.natAbs):Sz n i:=Nat.lt_of_le_of_lt l h
theorem Sz.fdiv {n:Nat} {i:Int} (h:Sz n i) (j:Int):Sz n (i.fdiv j):=h.le (Int.natAbs_fdiv_le_natAbs i j)
theorem Sz.Oj {n:Nat} {i j:Int} (h0:0<j) (h:Sz n j):Sz n (i.fmod j):=by
 have h1:=Int.fmod_nonneg_of_pos i h0
 have h2:=Int.fmod_lt_of_pos i h0
 exact h.le (by omega)
theorem Sz.bits {n:Nat} {i:Int} (h:Sz n i):Builtin.Int.intBits i≤n:=intBits_le h
theorem Sz.of_bits {n:Nat} {i:Int} (h:Builtin.Int.intBits i≤n):Sz n i:=by
 unfold Sz
 unfold Builtin.Int.intBits at h
 split at h
 ·rename_i hz
  have:i.natAbs=0:=by simpa using hz
  have:=Nat.two_pow_pos n
  omega
 ·exact Nat.lt_of_lt_of_le Nat.lt_log2_self (Nat.pow_le_pow_right (by decide) h)
theorem Sz.log2 {n:Nat} {i:Int} (h:Sz n i) (h0:0<n):i.natAbs.log2<n:=PySem.Flt.log2_lt_of h0 h
def jZ (i j:Int):Prop:=∃ a b:Nat,Sz a i∧Sz b j∧a+b≤134217728
def Bs (_ j:Int):Prop:=j≠0∧∃ b:Nat,Sz b j∧0<b∧b≤8000
def v9 (i j:Int):Prop:=0≤j∧∃ a:Nat,Sz a i∧(a:Int)*j≤134217728
section
variable {X:Cx}
theorem eN:OpR X (binaryOp .Mult) (rI jZ fun i j=>.int (i*j)):=opI fun i j _ _ _ _ _ hc q=>by
 obtain ⟨a,b,h1,h2,h3⟩:=hc
 exact mul_int q (yN h1 h2 h3)
where
 yN {i j:Int} {a b:Nat} (h1:Sz a i) (h2:Sz b j) (h3:a+b≤134217728):IntMulOk i j:=by
  have x:=h1.bits
  have y:=h2.bits
  have e:bitsLine=134217728:=by decide
  unfold IntMulOk
  intro z
  rw [Bool.and_eq_true] at z
  have z2:=z.2
  unfold Builtin.Int.intTooBig at z2
  have z3:=aN z2
  rw [e] at z3
  omega
theorem qM:OpR X (binaryOp .FloorDiv) (rI Bs fun i j=>.int (i.fdiv j)):=opI fun i j _ _ _ _ _ hc q=>by
 obtain ⟨h0,b,h1,h2,h3⟩:=hc
 exact floordiv_int h0 q (.inl (PyProof.noPylong_of_log2 (Nat.lt_of_lt_of_le (h1.log2 h2) (by omega))))
theorem oz:OpR X (binaryOp .Mod) (rI (fun _ j=>j≠0) fun i j=>.int (i.fmod j)):=op_modN
theorem qm:OpR X (binaryOp .Pow) (rI v9 fun i j=>.int (i ^ j.toNat)):=opI fun i j _ _ _ _ _ hc q=>by
 obtain ⟨h0,a,h1,h2⟩:=hc
 refine pow_int h0 ?_ q
 have x:=h1.bits
 have:(Builtin.Int.intBits i:Int)*j≤(a:Int)*j:=Int.mul_le_mul_of_nonneg_right (by omega) h0
 have e:(2:Int) ^ 27=134217728:=by decide
 omega
def KJ (t:TA):TE:=fun σ H Q=>t σ H fun xs H1=>xs.length≤sizeLine∧∀ p,H1 p=none→p≠sysModules→Q (.ref p) (upd H1 p (.lst xs))
theorem cI {es:List Expr} {t:TA} {pos:Pos} (h:PA X es t):PE X (.List es pos) (KJ t):=by
 constructor
 intro pins s σ H Q I hq
 refine wpAny_List_spliced (thn (h.run pos pins s σ H _ I hq) ?_)
 rintro us s1 ⟨xs,H1,I1,r,z,q⟩
 refine ⟨by rw [← r.length];exact z,?_⟩
 have hf:H1 s1.heap.objs.size=none:=I1.hok.fresh (Nat.le_refl _)
 have hn:s1.heap.objs.size≠sysModules:=by
  obtain ⟨o,_,_,ho,_⟩:=I1.mod.glob
  have h1:(3:Nat)<X.base.objs.size:=Heap.lt_size ho
  have h2:X.base.objs.size≤X.s_0.heap.objs.size:=I1.ok.bsz
  have h3:X.s_0.heap.objs.size≤s1.heap.objs.size:=I1.sz
  intro z
  have h5:s1.heap.objs.size=(1:Nat):=z
  omega
 exact ⟨.ref s1.heap.objs.size,upd H1 s1.heap.objs.size (.lst xs),I1.laid (t':=s1.toks) (fun b u e=>Heap.get?_push_of_some _ e) (Nat.le_refl _) ⟨z,us,0,r,Heap.get?_push_size _ rfl⟩,rfl,q _ hf hn⟩
end
end HS
namespace HS
open PySem PySem.Spec PyProof.Rows L2
section
variable {X:Cx}
theorem yO {x:Str} {v:V} {pos:Pos} (h:∃ u,X.mg x=some u∧RelV v u) (hg:Gl X x:=by rfl) (hd:(x == ("__debug__" : Str))=false:=by decide):PE X (.Name x pos) (tC v):=by
 obtain ⟨u,h1,h2⟩:=h
 exact pe_glob hg h1 h2 hd
end
section
variable {K:Frag} {x qual:Str} {st:Stmt} {f:Addr} {fd:FuncData} {ps ks:List Str} {n:Nat}
theorem LY (F:Fun K x qual st f fd) (g:List Value→List Value→List Value) (gV:List V→List V→List V)
  (h:∀ (kV doc pm:Value) (an:Option Addr) (cdv ct:Value) (us ws:List Value),us.length=n→ws.length=ks.length→bindArgs (fnOf x qual (defArgs st) (defBody st) (defScope st) .none kV doc pm an cdv ct) ⟨us,ks.zip ws⟩=pure (ps.zip (g us ws)))
  (hr:∀ {vs:List V} {us:List Value} {zs:List V} {ws:List Value},vs.length=n→zs.length=ks.length→Vals vs us→Vals zs ws→Vals (gV vs zs) (g us ws)):Bnd K fd ps n ks g gV:=by
 obtain ⟨oc,od,kV,doc,pm,an,cdv,ct,osl,rfl,lk,hcd⟩:=F.ex
 exact ⟨fun s us ws _ h1 h2=>.of_eq (h kV doc pm an cdv ct us ws h1 h2),hr⟩
end
section
variable {H H' H1 H2:Hp} {a p:Addr} {o u:HO}
theorem tY (hp:H p=none) (h:H a=some o):upd H p u a=some o:=by rw [upd_ne (ne_of_none h hp)];exact h
theorem j3 (hp:H p=none):Same H (upd H p u):=fun b o e=>tY hp e
def rJ (p:Addr) (H H':Hp):Prop:=∀ b o,b≠p→H b=some o→H' b=some o
theorem rJ.of (S:Same H H'):rJ p H H':=fun b o _ h=>S b o h
theorem rJ.trans (a:rJ p H H1) (b:rJ p H1 H2):rJ p H H2:=fun c o n h=>b c o n (a c o n h)
theorem rJ.upd:rJ p H (upd H p u):=fun b o n h=>by rw [upd_ne n];exact h
theorem rJ.same (S:rJ p H H1) (T:Same H1 H2):rJ p H H2:=fun b o n h=>T b o (S b o n h)
theorem oA (e:upd H p u a=none):a≠p∧H a=none:=by
 by_cases h:a=p
 ·rw [h,upd_same] at e
  cases e
 ·rw [upd_ne h] at e
  exact ⟨h,e⟩
end
structure ur (n:Nat) (c:Addr) (H:Hp) (p:Addr):Prop where
 ex:∃ (ns:List Int) (b g:Int),H p=some (.lst [.ref c,.int b,.int g])∧H c=some (.lst (ns.map V.int))∧c≠p∧0≤b∧b≤n∧0≤g∧Sz 1048600 g∧(∀ z∈ns,Sz 1048576 z)∧ns.length≤63
section
variable {m n:Nat} {H H':Hp} {p a c q:Addr} {u:HO}
theorem ur.at (h:ur n c H p):∃ o,H p=some o:=by
 obtain ⟨ns,b,g,h1,_⟩:=h.ex
 exact ⟨_,h1⟩
theorem ur.same (h:ur n c H p) (S:Same H H'):ur n c H' p:=by
 obtain ⟨ns,b,g,h1,h2,h3⟩:=h.ex
 exact ⟨ns,b,g,S _ _ h1,S _ _ h2,h3⟩
theorem ur.ne (h:ur n c H p) (e:H a=none):a≠p:=by
 obtain ⟨o,q⟩:=h.at
 exact (ne_of_none q e).symm
end
def KL (K:Frag):Sp:=fun vs H Q _=>∃ (a:Addr) (ns:List Int),vs=[.ref a]∧SqL K H a (ns.map V.int)∧ns.length≤63∧(∀ z∈ns,Sz 1048576 z)∧
 ∀ (p c:Addr) (H':Hp),H p=none→H c=none→ur 0 c H' p→Same H H'→Q (.ref p) H'
def AE:Sp:=fun vs H Q _=>∃ (p c:Addr) (m:Int) (n:Nat),vs=[.ref p,.int m]∧ur n c H p∧n≤1000000000∧0<m∧Sz 4000 m∧
 ∀ (r:Int) (H':Hp),0≤r→r<m→ur (n+1) c H' p→rJ p H H'→Q (.int r) H'
theorem Bt {K:Frag} {H:Hp}:∀ (ns:List Int),DpAll K H (ns.map V.int) (ns.map PyData.int)
 |[]=>.nil
 |n::ns=>.cons (.int n) (Bt ns)
theorem shaped_ints:∀ (ns:List Int),SeqAt.shaped (.list (ns.map PyData.int))=true:=by
 intro ns
 induction ns with
 |nil=>rfl
 |cons n ns ih=>first |exact ih |simpa [SeqAt.shaped] using ih
theorem IE (ns:List Int):PyData.eqv (.list (ns.map PyData.int)) (.list [])=ns.isEmpty:=by
 cases ns <;> simp [PyData.eqv,PyData.eqvAll]
end HS
namespace HS
open PySem PySem.Spec PyProof.Rows L2
section
variable {K:Frag} {H H' H1:Hp} {a p:Addr} {o u:HO} {v:V} {d:PyData} {vs:List V} {ds:List PyData}
def Hd (p:Addr) (H:Hp):Hp:=fun a=>if a=p then none else H a
theorem Hd.of (n:a≠p) (h:H a=some o):Hd p H a=some o:=by unfold Hd;rw [if_neg n];exact h
theorem Hd.same:Same (Hd p H) H:=fun b o e=>by
 unfold Hd at e
 split at e
 ·cases e
 ·exact e
theorem Hd.ne (h:Hd p H a=some o):a≠p:=by
 rintro rfl
 unfold Hd at h
 rw [if_pos rfl] at h
 cases h
theorem rJ.sub (b:rJ p H H'):Same (Hd p H) H':=fun c o e=>b c o (Hd.ne e) (Hd.same c o e)
end
structure Runs (J:It) (xs:List V) (G:Hp→Prop):Prop where
 stop:∀ H,G H→J.stop xs.length H
 go:∀ i H,i<xs.length→G H→J.go i H
 yld:∀ i H x H',G H→J.yld i H x H'→H'=H∧xs[i]? = some x∨xs.length≤i
theorem Ff (lo:Int) (n:Nat):Runs (Itr lo n) ((List.range n).map fun k=>V.int (lo+(k:Nat))) (fun _=>True):=
 ⟨fun _ _=>by show n≤_;simp,fun i _ h _=>by show i<n;simpa using h,fun i H x H' _ h=>by
  obtain ⟨e,rfl⟩:=h
  by_cases q:i<n
  ·exact .inl ⟨e,by simp [q]⟩
  ·exact .inr (by simpa using q)⟩
theorem Fg (x:Str):Runs (Its x) (x.cps.toList.map fun c=>V.str ⟨#[c]⟩) (fun _=>True):=
 ⟨fun _ _=>by show x.cps.size≤_;simp,fun i _ h _=>by show i<x.cps.size;simpa using h,fun i H y H' _ h=>by
  obtain ⟨e,c,hc,rfl⟩:=h
  exact .inl ⟨e,by simp [hc]⟩⟩
theorem CU {K:Frag} {a:Addr} {xs:List V}:Runs (Itl K a) xs (fun H=>SqL K H a xs):=
 ⟨fun _ g=>⟨xs,g,Nat.le_refl _⟩,fun i _ h g=>⟨xs,xs[i],g,by simp [h]⟩,fun i H y H' g h=>.inl ⟨h.1,h.2 xs g⟩⟩
theorem Fi {K:Frag} {a:Addr} {xs:List V}:Runs (Itt K a) xs (fun H=>SqT K H a xs):=
 ⟨fun _ g=>⟨xs,g,Nat.le_refl _⟩,fun i _ h g=>⟨xs,xs[i],g,by simp [h]⟩,fun i H y H' g h=>.inl ⟨h.1,h.2 xs g⟩⟩
section
variable {J:It} {xs:List V} {G:Hp→Prop} {σ:L2.St} {H1:Hp} {Q:VK} {i:Nat} {te:TE} {tt:TT} {Dn:Ends} {g:TG} {tb:TS} {vs:List Nat}
@[irreducible] def Qi (J:It) (g:TG) (tt:TT) (te:TE) (vs:List Nat) (σ:L2.St) (Q:VK) (D:Addr) (H1:Hp):Prop:=
  ∃ W:Nat→Nat→Hp→Prop,(∃ m,W 0 m (upd H1 D (.lst [])))∧∀ k m H,W k m H→
   (J.stop k H∧Q (.ref D) H)∨(J.go k H∧∃ Nx:Hp→Prop,(∀ H',Nx H'→∃ m',m'<m∧W (k+1) m' H')∧∀ x H',J.yld k H x H'→g x (wipe σ vs) H' fun σ2 H2=>wipe σ2 vs=wipe σ vs∧tt σ2 H2 fun b H3=>
    if b=true then te σ2 H3 fun y H4=>∃ acc,H4 D=some (.lst acc)∧acc.length<sizeLine∧Nx (upd H4 D (.lst (acc++[y]))) else Nx H3)
@[irreducible] def AF (wi:TI) (g:TG) (tt:TT) (te:TE) (vs:List Nat):TE:=tLc wi g tt te vs
theorem LZ {wi:TI} {H:Hp} (h:wi σ H fun J H1=>∀ D,H1 D=none→Qi J g tt te vs σ Q D H1):AF wi g tt te vs σ H Q:=by
 unfold AF
 unfold Qi at h
 exact h
@[irreducible] def Qj (J:It) (g:TG) (tb:TS) (Dn:Ends) (σ:L2.St) (H1:Hp):Prop:=
  ∃ W:Nat→Nat→L2.St→Hp→Prop,(∃ m,W 0 m σ H1)∧∀ i m σ H,W i m σ H→
   (J.stop i H∧Dn.nx σ H)∨(J.go i H∧∃ N:L2.St→Hp→Prop,(∀ σ' H',N σ' H'→∃ m',m'<m∧W (i+1) m' σ' H')∧∀ x H',J.yld i H x H'→g x σ H' fun σ2 H2=>tb {Dn with nx:=N,ct:=N,bk:=Dn.nx} σ2 H2)
@[irreducible] def yP (wi:TI) (g:TG) (tb:TS):TS:=tFor wi g tb
theorem IF {wi:TI} {H:Hp} (h:wi σ H fun J H1=>Qj J g tb Dn σ H1):yP wi g tb Dn σ H:=by
 unfold yP
 unfold Qj at h
 exact h
end
section
variable {X:Cx}
theorem gT {elt tg iter:Expr} {ifs:List Expr} {scope:Scope} {own:List (Str×Nat)} {pos:Pos} {wi:TI} {g:TG} {tt:TT} {te:TE} (hc:X.calm=true) (hN:X.N.Nodup) (hi:PI X tg iter wi) (ok:BlkOk X.N X.env.scope scope own)
  (hg:∀ (s:Shared) (H:Hp) (C:Addr) (cl:List (Str×Addr)) (fp:List Addr),PG (X.blk s H scope (compEnvC scope cl C X.env) fp) tg g) (ht:∀ (s:Shared) (H:Hp) (C:Addr) (cl:List (Str×Addr)) (fp:List Addr),PTs (X.blk s H scope (compEnvC scope cl C X.env) fp) ifs tt)
  (he:∀ (s:Shared) (H:Hp) (C:Addr) (cl:List (Str×Addr)) (fp:List Addr),PE (X.blk s H scope (compEnvC scope cl C X.env) fp) elt te) (hs:∀ x,foldedSetIterable iter X.env x=pure x:=by intro _;rfl) :
  PE X (.ListComp elt [⟨tg,iter,ifs,0⟩] scope pos) (AF wi g tt te (own.map (·.2))):=by
 unfold AF
 exact pe_lc hc hN hi ok hg ht he hs
theorem mw {tg iter:Expr} {body:List Stmt} {wi:TI} {g:TG} {tb:TS} {pos:Pos} (hp:PassesOwn (model X.prog X.w) X.A X.env X.xe) (hc:X.calm=true) (hi:PI X tg iter wi) (hg:PG X tg g) (hb:PSs X body tb)
  (hs:∀ x,foldedSetIterable iter X.env x=pure x:=by intro _;rfl):PS X (.For tg iter body [] pos) (yP wi g tb):=by
 unfold yP
 exact ps_for hp hc hi hg hb hs
end
def Pk (K:Frag) (H:Hp) (x:V) (xs:List V):Prop:=(∃ a,x=.ref a∧(SqL K H a xs∨SqT K H a xs))∨(∃ z:Str,x=.str z∧z.length≤sizeLine∧xs=z.cps.toList.map fun c=>V.str ⟨#[c]⟩)
theorem Pk.same {K:Frag} {H H':Hp} {x:V} {xs:List V} (e:Same H H') (h:Pk K H x xs):Pk K H' x xs:=by
 rcases h with ⟨a,h1,h |h⟩|h
 ·exact .inl ⟨a,h1,.inl (L2.Same.seq e h)⟩
 ·exact .inl ⟨a,h1,.inr (Same.tup e h)⟩
 ·exact .inr h
theorem Pk.len {K:Frag} {H:Hp} {x:V} {xs:List V} (h:Pk K H x xs):LenV K x H xs.length:=by
 rcases h with ⟨a,rfl,h |h⟩|⟨z,rfl,h,rfl⟩
 ·exact .inl ⟨_,h,rfl⟩
 ·exact .inr ⟨_,h,rfl⟩
 ·exact ⟨h,by simp [Str.length]⟩
theorem Pk.ix {K:Frag} {H:Hp} {x:V} {xs:List V} (h:Pk K H x xs) {r:Int} (h0:0≤r) (h1:r<xs.length) {Q:VK} (q:∀ v∈xs,Q v H):rIx K x (.int r) H Q:=by
 obtain ⟨i,rfl⟩:∃ i:Nat,r=i:=⟨r.toNat,by omega⟩
 have hi:i<xs.length:=by omega
 rcases h with ⟨a,rfl,h |h⟩|⟨z,rfl,h,rfl⟩
 ·exact .inl ⟨a,xs,_,_,rfl,rfl,h,atI_nat (v:=xs[i]) (by simp [hi]),q _ (List.getElem_mem _)⟩
 ·exact .inr (.inl ⟨a,xs,_,_,rfl,rfl,h,atI_nat (v:=xs[i]) (by simp [hi]),q _ (List.getElem_mem _)⟩)
 ·have hi':i<z.cps.toList.length:=by simpa using hi
  exact .inr (.inr ⟨z,_,_,rfl,rfl,h,atI_nat (v:=z.cps.toList[i]) (by simp [hi']),q _ (List.mem_map.mpr ⟨_,List.getElem_mem hi',rfl⟩)⟩)
def Fj (K:Frag):Sp:=fun vs H Q _=>∃ (p c:Addr) (x:V) (xs:List V) (n:Nat),vs=[.ref p,x]∧ur n c H p∧n≤1000000000∧Pk K (Hd p H) x xs∧0<xs.length∧xs.length≤1000000∧
 ∀ v∈xs,∀ H':Hp,ur (n+1) c H' p→rJ p H H'→Q v H'
end HS
namespace HS
open PySem PySem.Spec PyProof.Rows L2
def H8:PyData→String
 |.none => "NoneType"
 |.bool _ => "bool"
 |.int _ => "int"
 |.str _ => "str"
 |.list _ => "list"
 |.tuple _ => "tuple"
 |.dict _ => "dict"
def VB (n:String) (d:PyData):Bool:=H8 d == n||(n == "int" && H8 d == "bool")
theorem kit_ty (K:Frag) {n:String} (h:n∈["str", "int", "bool", "list", "tuple", "dict"]) (d:PyData):kitOne K (.type (H8 d)) (.type n)=some (VB n d):=by
 simp only [List.mem_cons,List.mem_nil_iff,or_false] at h
 rcases h with rfl |rfl |rfl |rfl |rfl |rfl <;> cases d <;> rfl
section
variable {K:Frag} {H:Hp} {v:V} {d:PyData}
theorem Rd.ty (h:Rd K H v d):Ty K H v (.type (H8 d)):=by
 cases h with
 |non=>exact .x (.base .non)
 |bl b=>exact .x (.base (.bl b))
 |int i=>exact .x (.base (.int i))
 |str x=>exact .x (.base (.str x))
 |lst s n t=>
  rcases s with (s |⟨o,s⟩)|⟨o,its,n,e,c,_⟩
  ·exact .x (.base (.lst s))
  ·exact .x (.base (.frz s))
  ·exact .x (.kList e c)
 |tup s t=>
  rcases s with (s |⟨o,s⟩)|⟨o,its,n,e,c,_⟩
  ·exact .x (.base (.tup s))
  ·exact .x (.fTuple s)
  ·exact .x (.kTuple e c)
 |dct e l t=>
  rcases e with e |⟨o,e⟩
  ·exact .x (.base (.dK e))
  ·exact .x (.fDict e)
end
structure Sm (n k:Nat) (d:PyData):Prop where
 sh:d.showable=true
 dep:d.depth≤k
 len:d.shown.length≤n
end HS
namespace HS
open PySem PySem.Spec PyProof.Rows L2
section
variable {X:Cx} {st:Stmt} {t t':TS}
def KN (i j:Nat) (ta:TA):TS:=fun D σ H=>ta σ H fun vs H1=>∃ v w,vs=[v,w]∧∀ q,H1 q=none→D.nx ((σ.set i (some v)).set j (some w)) (upd H1 q (.tup vs))
theorem IG {es:List Expr} {ta:TA} {i j k:Nat} {x y:Str} {px py p q:Pos} {x1} (hc:X.calm=true) (hN:X.N.Nodup) (hi:X.N[i]? = some x) (hj:X.N[j]? = some y) (hx:X.env.scope.names.lookup x=some .local) (hy:X.env.scope.names.lookup y=some .local)
  (ha:PA X es ta) (hs:swapsWithSole [.Tuple [.Name x px,.Name y py] k p] (.Tuple es x1 q) pos.line X.env=pure false:=by rfl) (hw:swappedStores [.Tuple [.Name x px,.Name y py] k p] (.Tuple es x1 q) X.env=pure none:=by rfl)
  (h1:(assignEach [.Tuple [.Name x px,.Name y py] k p] X.env).map (·.2)=[assign (.Tuple [.Name x px,.Name y py] k p) X.env]:=by rfl) (hn:(assignEach [.Name x px,.Name y py] X.env).length=2:=by rfl) (hst:(assignEach [.Name x px,.Name y py] X.env).findIdx? (·.1)=none:=by rfl) :
  PS X (.Assign [.Tuple [.Name x px,.Name y py] k p] (.Tuple es x1 q) pos) (KN i j ta):=by
 constructor
 intro pins s σ H D I h
 refine wpAny_Assign_stores (thn ((pe_tup (Oi ha)).run pins s σ H (fun v H'=>gTup X.K 2 (gCons (gName i) (gCons (gName j) gNil)) v σ H' D.nx) I ?_) fun v s1 ⟨z,H1,I1,r1,q1⟩=>?_) hs hw
 ·refine ⟨_,h,fun vs H1 hq=>?_⟩
  obtain ⟨v,w,rfl,q⟩:=hq
  exact ⟨by show 2≤sizeLine;decide,fun q' hq'=>⟨q',_,rfl,.inl (.inl upd_same),rfl,v,_,rfl,w,_,rfl,rfl,q q' hq'⟩⟩
 ·rw [h1]
  exact thn ((pg_tup hc (pgs_cons (pg_name hN hi (.inl hx) (.inr hx)) (pgs_cons (pg_name hN hj (.inl hy) (.inr hy)) pgs_nil)) hn hst).run pins s1 σ H1 z v _ I1 r1 q1) fun _ s2 q=>q
end
theorem yQ (K:Frag) (C:Addr):kitOne K (.ref C) (.ref C)=some true:=by
 unfold kitOne
 rw [if_pos (by simp)]
@[irreducible] def Fl:R2:=rEq
@[irreducible] def Fo:R2:=rNe
section
variable {X:Cx} {x y:V} {z:Str} {H:Hp} {Q:VK}
theorem L0:OpR X (compareOp .Eq) Fl:=by
 unfold Fl
 exact op_eq
theorem qo:OpR X (compareOp .NotEq) Fo:=by
 unfold Fo
 exact op_ne
theorem eq_mk (h:scal x y=true) (q:Q (.bl (decide (x=y))) H):Fl x y H Q:=by
 unfold Fl
 exact ⟨h,q⟩
theorem Ol (h:scal x y=true) (q:Q (.bl (!decide (x=y))) H):Fo x y H Q:=by
 unfold Fo
 exact ⟨h,q⟩
end
end HS
namespace HS
open PySem PySem.Spec PyProof.Rows L2
theorem Rm.in1 {k:Nat} {A:Around} (r:Rm (k+1) A):Rm k A.in1:=⟨r.room.in1,r.gd⟩
theorem FunD.pA {P:Program} {w:World} {K:Frag} {mg:Str→Option Value} {base:Heap} {x qual:Str} {st:Stmt} {dvs:List V} {kws:List (Str×V)} {f:Addr} {fd:FuncData} {N ps:List Str} {k:Nat} {sp:Sp}
  (F:FunD K x qual (defArgs st) (defBody st) (defScope st) dvs kws f fd) (S:FnScope N ps (defScope st)) (len:∀ vs H Q E,sp vs H Q E→vs.length=ps.length)
  (hbody:∀ (cdv:Value) (A:Around) (outer:List Env) (s:Shared) (H:Hp) (vs:List V) (Q:VK) (E:XK),Rm k (A.deeper (envOfC qual (defScope st) s.heap.objs.size f cdv))→sp vs H Q E→
   ∃ t,PSs (cxOf (L2.CX P w) P w K mg base N qual (defScope st) f cdv A outer s H E) (defBody st) t∧t {nx:=fun _ H'=>Q .non H',rt:=Q} (start N vs) H) :
  gG P w K mg base (k+1) f fd ps sp:=by
 obtain ⟨oc,od,dV,kV,doc,pm,an,cdv,ct,osl,rfl,lk,hcd,_,_⟩:=F.ex
 exact Tg lk hcd S len fun A outer s H vs Q E=>hbody cdv A outer s H vs Q E
section
variable {K:Frag} {x qual:Str} {st:Stmt} {dvs:List V} {f:Addr} {fd:FuncData} {ps ks:List Str} {n:Nat}
theorem Ma (F:FunD K x qual (defArgs st) (defBody st) (defScope st) dvs [] f fd) (hd:dvs≠[]) (g:List Value→List Value→List Value→List Value) (gV:List V→List V→List V→List V)
  (h:∀ (T:Addr) (kV doc pm:Value) (an:Option Addr) (cdv ct:Value) (us its ws:List Value),us.length=n→its.length=dvs.length→ws.length=ks.length→
   ∃ k,bindArgs (fnOf x qual (defArgs st) (defBody st) (defScope st) (.ref T) kV doc pm an cdv ct) ⟨us,ks.zip ws⟩=seqItems? (.ref T) >>= k∧k (some its.toArray)=pure (ps.zip (g us its ws)))
  (hr:∀ {vs ds zs:List V} {us its ws:List Value},vs.length=n→ds.length=dvs.length→zs.length=ks.length→Vals vs us→Vals ds its→Vals zs ws→Vals (gV vs ds zs) (g us its ws)) :
  ∃ its:List Value,Bnd K fd ps n ks (fun us ws=>g us its ws) (fun vs zs=>gV vs dvs zs):=by
 obtain ⟨oc,od,dV,kV,doc,pm,an,cdv,ct,osl,rfl,lk,hcd,hD,_⟩:=F.ex
 rcases hD with ⟨e,_⟩|⟨_,T,o,its,m,rfl,lT,oT,rT⟩
 ·exact absurd e hd
 ·refine ⟨its,⟨fun s us ws KI l1 l2=>BindsTo.of_looks fun M=>?_,fun l1 l2 r1 r2=>hr l1 rfl l2 r1 rT r2⟩⟩
  obtain ⟨k,e1,e2⟩:=h T kV doc pm an cdv ct us its ws l1 rT.length.symm l2
  rw [e1]
  exact looks_items KI lT oT (.of_pure e2)
end
section
variable {X:Cx} {pins:List (Addr×Obj)} {σ:L2.St} {H:Hp} {s s':Shared} {W:WX} {Q:VK} {k:Nat} {f C:Addr} {fd:FuncData} {ps ks:List Str} {sp:Sp} {n:Nat}
variable {g:List Value→List Value→List Value} {gV:List V→List V→List V} {e o:Expr} {es:List Expr} {kws:List Keyword} {ta:TE} {t tk:TA} {x m:Str} {p pos apos:Pos}
theorem Mb {us ws:List Value} {vs zs:List V} (F:gG X.prog X.w X.K X.mg X.base k f fd ps sp) (hr:Rm k X.A) (tk:Takes X W) (I:Inv X pins σ H s) (hb:Bnd X.K fd ps n ks g gV)
  (r:Vals vs us) (rz:Vals zs ws) (l1:vs.length=n) (l2:zs.length=ks.length) (h:sp (gV vs zs) H Q (Fc W σ)):wpAny (model X.prog X.w) X.A (call (.ref f) us (ks.zip ws)) (EP X pins σ Q) X.xe s:=
 CP F hr tk I (hb.to s us ws I.kIn (r.length.symm.trans l1) (rz.length.symm.trans l2)) (hb.rel l1 l2 r rz) h
def Rh (C:Addr) (m:Str) (n mk:Nat) (sp:Sp) (gV:List V→List V→List V) (W:WX) (ta:TE) (t tk:TA):TE:=fun σ H Q=>ta σ H fun x H1=>∃ a dx fs,x=.ref a∧H1 a=some (.ins C dx fs)∧fs.lookup m=none∧
 t σ H1 fun vs H2=>tk σ H2 fun zs H3=>vs.length=n∧zs.length=mk∧sp (gV (x::vs) zs) H3 Q (Fc W σ)
theorem KO {pl:Sem Bool} (ho:PE X o ta) (c:Cls X.K C) (hm:Meth X.K C m f) (F:gG X.prog X.w X.K X.mg X.base k f fd ps sp) (hr:Rm k X.A) (tak:Takes X W) (hb:Bnd X.K fd ps (n+1) ks g gV) (ha:PA X (e::es) t) (hkw:PK X kws tk)
  (hall:(backToKw pos (keywordEach kws X.env)).all (·.1.isSome)=true:=by rfl) (hks:(backToKw pos (keywordEach kws X.env)).filterMap (·.1)=ks:=by rfl)
  (he:starEach (e::es) X.env=(false,eval e X.env)::starEach es X.env:=by rfl) (hpl:((backTo pos (starEach (e::es) X.env)).any (·.1)||(backToKw pos (keywordEach kws X.env)).any (·.1.isNone))=false:=by rfl)
  (hev:eval (.Call (.Attribute o m apos) (e::es) kws pos) X.env=(do
   let ov ← eval o X.env
   standAt apos.atName
   let (f,first) ← holding [ov] (getMethod ov m pl)
   callWith pos f first (backTo pos (starEach (e::es) X.env)) (backToKw pos (keywordEach kws X.env))):=by rfl) :
  PE X (.Call (.Attribute o m apos) (e::es) kws pos) (Rh C m n ks.length sp gV W ta t tk):=by
 constructor
 intro pins s σ H Q I h
 refine PySem.W.methodCall_KW (pl:=pl) (thn (ho.run pins s σ H _ I h) ?_) hev
 rintro u s1 ⟨_,H1,I1,rx,a,dx,fs,rfl,ea,l,q⟩
 obtain rfl:u=Value.ref a:=rx
 refine getmeth_ok I1 ea c hm l (PySem.W.callWith_KW (first:=[.ref a]) (h₀:=X.base) I.ok.mod.kin hm.kp hall (thn (ha.run pos pins s1 σ H1 _ I1 q) ?_) hpl he)
 rintro us s2 ⟨vs,H2,I2,r,q2⟩
 refine thn (hkw.run pos pins s2 σ H2 _ I2 q2) ?_
 rintro ws s3 ⟨zs,H3,I3,rz,l1,l2,q3⟩
 rw [hks]
 exact ⟨I3.kIn,Mb (us:=.ref a::us) (vs:=.ref a::vs) F hr tak I3 hb (.cons rfl r) rz (congrArg Nat.succ l1) l2 q3⟩
theorem Mc {pl:Sem Bool} (ho:PE X o ta) (c:Cls X.K C) (hm:Meth X.K C m f) (F:gG X.prog X.w X.K X.mg X.base k f fd ps sp) (hr:Rm k X.A) (tak:Takes X W) (hb:Bnd X.K fd ps (0+1) ks g gV) (hkw:PK X kws tk)
  (hall:(backToKw pos (keywordEach kws X.env)).all (·.1.isSome)=true:=by rfl) (hks:(backToKw pos (keywordEach kws X.env)).filterMap (·.1)=ks:=by rfl)
  (hpl:((backTo pos (starEach [] X.env)).any (·.1)||(backToKw pos (keywordEach kws X.env)).any (·.1.isNone))=false:=by rfl)
  (hev:eval (.Call (.Attribute o m apos) [] kws pos) X.env=(do
   let ov ← eval o X.env
   standAt apos.atName
   let (f,first) ← holding [ov] (getMethod ov m pl)
   callWith pos f first (backTo pos (starEach [] X.env)) (backToKw pos (keywordEach kws X.env))):=by rfl) :
  PE X (.Call (.Attribute o m apos) [] kws pos) (Rh C m 0 ks.length sp gV W ta tNil tk):=by
 constructor
 intro pins s σ H Q I h
 refine PySem.W.methodCall_KW (pl:=pl) (thn (ho.run pins s σ H _ I h) ?_) hev
 rintro u s1 ⟨_,H1,I1,rx,a,dx,fs,rfl,ea,l,q⟩
 obtain rfl:u=Value.ref a:=rx
 refine getmeth_ok I1 ea c hm l (PySem.W.callWith_KW0 (first:=[.ref a]) (h₀:=X.base) I.ok.mod.kin hm.kp hall (thn (hkw.run pos pins s1 σ H1 _ I1 q) ?_) hpl)
 rintro ws s3 ⟨zs,H3,I3,rz,l1,l2,q3⟩
 rw [hks]
 exact ⟨I3.kIn,Mb (us:=[.ref a]) (vs:=[.ref a]) F hr tak I3 hb (.cons rfl .nil) rz rfl l2 q3⟩
def Tu (C:Addr) (n mk:Nat) (sp:Sp) (gV:List V→List V→List V) (W:WX) (t tk:TA):TE:=fun σ H Q=>t σ H fun vs H1=>tk σ H1 fun zs H2=>vs.length=n∧zs.length=mk∧
 ∀ x dx,H2 x=none→H2 dx=none→dx≠x→sp (gV (.ref x::vs) zs) (upd (upd H2 dx (.own x)) x (.ins C dx [])) (fun v H3=>v=.non∧Q (.ref x) H3) (Fc W σ)
theorem runC {us ws:List Value} {vs zs:List V} (M:Mk X.K C f) (F:gG X.prog X.w X.K X.mg X.base k f fd ps sp) (hr:Rm (k+1) X.A) (tak:Takes X W) (I:Inv X pins σ H s) (hb:Bnd X.K fd ps (n+1) ks g gV)
  (r:Vals vs us) (rz:Vals zs ws) (l1:vs.length=n) (l2:zs.length=ks.length)
  (h:∀ x dx,H x=none→H dx=none→dx≠x→sp (gV (.ref x::vs) zs) (upd (upd H dx (.own x)) x (.ins C dx [])) (fun v H3=>v=.non∧Q (.ref x) H3) (Fc W σ)) :
  wpAny (model X.prog X.w) X.A (call (.ref C) us (ks.zip ws)) (EP X pins σ Q) X.xe s:=by
 have hq:=h (s.heap.objs.size+1) s.heap.objs.size (I.hok.fresh (Nat.le_succ _)) (I.hok.fresh (Nat.le_refl _)) (Nat.ne_of_lt (Nat.lt_succ_self _))
 have I2:=Inv.made (C:=C) I
 have r1:Vals (V.ref (s.heap.objs.size+1)::vs) (Value.ref (s.heap.objs.size+1)::us):=.cons rfl r
 have e2:ws.length=ks.length:=rz.length.symm.trans l2
 refine wpAny_call (make_map (f:=f) I.kIn M.makes M.init (beq_iff_eq.mp M.fn) (codeAny_mono (F.run _ X.stack _ _ ⟨_,ks.zip ws⟩ _ _ _ _ (hr.make C us (ks.zip ws)) (I2.env0.make C us (ks.zip ws))
  (hb.to _ _ ws I2.kIn (r1.length.symm.trans (congrArg Nat.succ l1)) e2) (hb.rel (vs:=V.ref (s.heap.objs.size+1)::vs) (congrArg Nat.succ l1) l2 r1 rz) hq) ?_))
 intro res s' hq'
 have z:=xA tak I2 hq'
 cases res with
 |error e=>exact z
 |ok fl=>
  cases fl with
  |next=>exact z
  |brk=>exact z
  |cont=>exact z
  |ret u=>
   obtain ⟨_,H',I3,rv,rfl,q3⟩:=z
   exact ⟨rv,V.ref (s.heap.objs.size+1),H',I3,rfl,q3⟩
theorem nj (M:Mk X.K C f) (F:gG X.prog X.w X.K X.mg X.base k f fd ps sp) (hr:Rm (k+1) X.A) (tak:Takes X W) (hm:X.mg x=some (.ref C)) (hb:Bnd X.K fd ps (n+1) ks g gV) (ha:PA X (e::es) t) (hkw:PK X kws tk) (hg:Gl X x:=by rfl)
  (hall:(backToKw pos (keywordEach kws X.env)).all (·.1.isSome)=true:=by rfl) (hks:(backToKw pos (keywordEach kws X.env)).filterMap (·.1)=ks:=by rfl)
  (hdb:(x == ("__debug__" : Str))=false:=by decide) (he:starEach (e::es) X.env=(false,eval e X.env)::starEach es X.env:=by rfl)
  (hpl:((backTo pos (starEach (e::es) X.env)).any (·.1)||(backToKw pos (keywordEach kws X.env)).any (·.1.isNone))=false:=by rfl) :
  PE X (.Call (.Name x p) (e::es) kws pos) (Tu C n ks.length sp gV W t tk):=by
 constructor
 intro pins s σ H Q I h
 refine wpAny_Call_Name_kw (ld_glob I hg hm (PySem.W.callWith_KW (h₀:=X.base) I.ok.mod.kin M.kp hall (thn (ha.run pos pins s σ H _ I h) ?_) hpl he) hdb)
 rintro us s1 ⟨vs,H1,I1,r,q⟩
 refine thn (hkw.run pos pins s1 σ H1 _ I1 q) ?_
 rintro ws s2 ⟨zs,H2,I2,rz,l1,l2,q2⟩
 rw [hks]
 exact ⟨I2.kIn,runC M F hr tak I2 hb r rz l1 l2 q2⟩
end
structure Fp (K:Frag) (C:Addr) (mc:Value) (m:Str) (p g:Addr):Prop where
 at_:PySem.W.findCls K (.ref C) mc m=some (.get (.builtin "staticmethod.__get__") (.ref p) .none (.ref C))
 rc:∃ rest,PySem.W.recIn K p "staticmethod" = some (.ref g::rest)
 kp:keepIn K (.ref g)=true
section
variable {X:Cx} {W:WX} {k:Nat} {f C q:Addr} {fd:FuncData} {ps ks:List Str} {sp:Sp} {n:Nat} {mc:Value}
variable {g:List Value→List Value→List Value} {gV:List V→List V→List V} {e o:Expr} {es:List Expr} {kws:List Keyword} {ta:TE} {t tk:TA} {x m:Str} {p pos apos:Pos}
def Tv (C:Addr) (n mk:Nat) (sp:Sp) (gV:List V→List V→List V) (W:WX) (ta:TE) (t tk:TA):TE:=fun σ H Q=>ta σ H fun x H1=>x=.ref C∧
 t σ H1 fun vs H2=>tk σ H2 fun zs H3=>vs.length=n∧zs.length=mk∧sp (gV vs zs) H3 Q (Fc W σ)
theorem Ft {pins:List (Addr×Obj)} {σ:L2.St} {H:Hp} {s:Shared} {pl:Sem Bool} {A:Around} {E:Value→Shared→Prop} {Q:Value×List Value→Shared→Prop} (I:Inv X pins σ H s) (rd:ClX.CRead X.K C mc) (S:Fp X.K C mc m q f)
  (h:∀ s',Inv X pins σ H s'→Q (.ref f,[]) s'):wpAny (model X.prog X.w) A (getMethod (.ref C) m pl) Q E s:=by
 obtain ⟨rest,hp⟩:=S.rc
 refine PySem.W.method_cls I.kIn rd.ga (PySem.W.cls_bind I.kIn rd.rd S.at_ (wpAny_call (PySem.W.sm_get (s:={s with toks:=s.toks+1}) I.kIn hp (PySem.W.handed_on rfl ?_))))
 exact h _ (I.tok _)
theorem rS {pl:Sem Bool} (ho:PE X o ta) (rd:ClX.CRead X.K C mc) (S:Fp X.K C mc m q f) (F:gG X.prog X.w X.K X.mg X.base k f fd ps sp) (hr:Rm k X.A) (tak:Takes X W) (hb:Bnd X.K fd ps n ks g gV) (ha:PA X (e::es) t) (hkw:PK X kws tk)
  (hall:(backToKw pos (keywordEach kws X.env)).all (·.1.isSome)=true:=by rfl) (hks:(backToKw pos (keywordEach kws X.env)).filterMap (·.1)=ks:=by rfl)
  (he:starEach (e::es) X.env=(false,eval e X.env)::starEach es X.env:=by rfl) (hpl:((backTo pos (starEach (e::es) X.env)).any (·.1)||(backToKw pos (keywordEach kws X.env)).any (·.1.isNone))=false:=by rfl)
  (hev:eval (.Call (.Attribute o m apos) (e::es) kws pos) X.env=(do
   let ov ← eval o X.env
   standAt apos.atName
   let (f,first) ← holding [ov] (getMethod ov m pl)
   callWith pos f first (backTo pos (starEach (e::es) X.env)) (backToKw pos (keywordEach kws X.env))):=by rfl) :
  PE X (.Call (.Attribute o m apos) (e::es) kws pos) (Tv C n ks.length sp gV W ta t tk):=by
 constructor
 intro pins s σ H Q I h
 refine PySem.W.methodCall_KW (pl:=pl) (thn (ho.run pins s σ H _ I h) ?_) hev
 rintro u s1 ⟨_,H1,I1,rx,rfl,q⟩
 obtain rfl:u=Value.ref C:=rx
 refine Ft I1 rd S fun s1' VC=>?_
 refine PySem.W.callWith_KW (first:=[]) (h₀:=X.base) I.ok.mod.kin S.kp hall (thn (ha.run pos pins s1' σ H1 _ VC q) ?_) hpl he
 rintro us s2 ⟨vs,H2,I2,r,q2⟩
 refine thn (hkw.run pos pins s2 σ H2 _ I2 q2) ?_
 rintro ws s3 ⟨zs,H3,I3,rz,l1,l2,q3⟩
 rw [hks]
 exact ⟨I3.kIn,Mb F hr tak I3 hb r rz l1 l2 q3⟩
end
end HS
namespace PySem.W
open PySem PySem.Calls PyProof.Rows
section
variable {prog:Program} {w:World} {A:Around} {E:Value→Shared→Prop} {s:Shared} {K:Frag} {x C f:Addr} {ox:Obj} {od:Option Obj} {nm T:String}
structure NJ (K:Frag) (C f:Addr) (nm:String):Prop where
 first:selfFirst K C=true
 at_:findIn K (.ref C) (PySem.dunder nm)=some (some (.ref f))
 fn:isFn K (.ref f)=true
theorem II {b:Value} {Q:Value→Shared→Prop} (X:K.In s.heap) (I:InstAt s.heap x ox C od) (hb:Looks (model prog w) s.heap (typeOf b) (.ref C)) (o:NJ K C f nm)
  (h:wpAny (model prog w) A (call (.ref f) [.ref x,b]) (CmpBack Q) E s):wpAny (model prog w) A (binaryOp1 nm (.ref x) b) (fun r s'=>∃ v,r=some v∧Q v s') E s:=by
 obtain ⟨cd,rest,hcd,hm⟩:=ksp_first o.first
 have one:=ksp_try X I o.at_ o.fn h
 obtain ⟨hh,g,d,tt,os⟩:=s
 have L1:Looks (model prog w) hh (typeOf (.ref x)) (.ref C):=I.type
 have L3:Looks (model prog w) hh (fillsNumberSlot (.ref C) nm) true:=fills_K X hcd hm o.at_
 unfold binaryOp1
 refine wpAny_bind (L1.at (wpAny_bind (hb.at (wpAny_bind (L3.at ?_)))))
 simp only [beq_self_eq_true,if_true]
 ksp_lk
 refine wpAny_mono one (fun r s' hr'=>?_) fun _ _ e=>e
 obtain ⟨v,rfl,hq⟩:=hr'
 exact wpAny_pure ⟨v,rfl,hq⟩
theorem IJ {b:Value} {fo ro rc:Option Value} {Q:Value→Shared→Prop} (X:K.In s.heap) (I:InstAt s.heap x ox C od) (hb:Looks (model prog w) s.heap (typeOf b) (.type T)) (o:NJ K C f nm)
  (hr:findIn K (.ref C) (dunderR nm)=some rc) (hp:rc=none∨∃ g:Addr,rc=some (.ref g))
  (h1:findIn K (.type T) (PySem.dunder nm)=some fo) (h2:findIn K (.type T) (dunderR nm)=some ro) (hsub:subIn K (.type T) (.ref C)=some false)
  (h:wpAny (model prog w) A (call (.ref f) [.ref x,b]) (CmpBack Q) E s):wpAny (model prog w) A (binaryOp1 nm (.ref x) b) (fun r s'=>∃ v,r=some v∧Q v s') E s:=by
 obtain ⟨cd,rest,hcd,hm⟩:=ksp_first o.first
 have one:=ksp_try X I o.at_ o.fn h
 obtain ⟨hh,g,d,tt,os⟩:=s
 have L1:Looks (model prog w) hh (typeOf (.ref x)) (.ref C):=I.type
 have L3:Looks (model prog w) hh (fillsNumberSlot (.ref C) nm) true:=fills_K X hcd hm o.at_
 have L4:Looks (model prog w) hh (fillsNumberSlot (.type T) nm) ((fo.isSome && !isSeqSlot fo)||(ro.isSome && !isSeqSlot ro)):=ksp_fillsT X h1 h2
 have L5:Looks (model prog w) hh (isSubtype (.type T) (.ref C)) false:=looks_subIn X hsub
 have L6:Looks (model prog w) hh (numberSlotInPython (.ref C) nm) true:=ksp_inPy X o.at_ hr hp
 have L7:Looks (model prog w) hh (numberSlotInPython (.type T) nm) false:=Looks.of_pure rfl
 have L8:Looks (model prog w) hh (typeLookup (.type T) (dunderR nm)) ro:=looks_findIn X h2
 generalize ((fo.isSome && !isSeqSlot fo)||(ro.isSome && !isSeqSlot ro))=right at L4
 have hne:(Value.ref C == Value.type T)=false:=Bool.eq_false_iff.mpr fun q=>by cases beq_iff_eq.mp q
 unfold binaryOp1
 refine wpAny_bind (L1.at (wpAny_bind (hb.at (wpAny_bind (L3.at ?_)))))
 simp only [hne,Bool.false_eq_true,if_false]
 cases right with
 |false=>
  ksp_lk
  refine wpAny_mono one (fun r s' hr'=>?_) fun _ _ e=>e
  obtain ⟨v,rfl,hq⟩:=hr'
  exact wpAny_pure ⟨v,rfl,hq⟩
 |true=>
  ksp_lk
  refine wpAny_mono one (fun r s' hr'=>?_) fun _ _ e=>e
  obtain ⟨v,rfl,hq⟩:=hr'
  exact wpAny_pure ⟨v,rfl,hq⟩
theorem Me {op:Operator} {a b:Value} {Q:Value→Shared→Prop} (h:wpAny (model prog w) A (binaryOp1 op.info.2 a b) (fun r s'=>∃ v,r=some v∧Q v s') E s):wpAny (model prog w) A (binaryOp op a b) Q E s:=by
 rcases hi:op.info with ⟨sym,Wt⟩
 rw [hi] at h
 simp only [binaryOp,hi]
 refine wpAny_holding (wpAny_bind (wpAny_mono h (fun r s' hr=>?_) fun _ _ e=>e))
 obtain ⟨v,rfl,hq⟩:=hr
 ksp_lk
 exact hq
theorem Fv {M:Model} {Q:Fin→Shared→Prop} {nm:String} {f:Int→Int→Sem Fin} {i:Int} {t:Tok} {x C dx:Addr} (hx:s.heap.get? x=some (instObj C dx))
  (h:Q (.done (.ret .notImplemented)) s):wpAny M A (Builtin.Int.intBinary nm f false ⟨[.int i t,.ref x],[]⟩) Q E s:=by
 obtain ⟨hh,g,d,tk,os⟩:=s
 unfold Builtin.Int.intBinary
 simp only [asInt?]
 dsimp only at hx
 repeat lk
 exact h
theorem Fw {Q:Option Value→Shared→Prop} {i:Int} {t:Tok} {x C dx:Addr} {name:Str} {id nm:String} {B:Builtin} {f:Int→Int→Sem Fin} (slot:Slot "int" name id)
  (entry:entryFor table id=some B) (args:argsOk id ⟨[.int i t,.ref x],[]⟩) (hB:B=Builtin.Int.intBinary nm f false) (hx:s.heap.get? x=some (instObj C dx))
  (h:Q none s):wpAny (model prog w) A (tryMethod (.int i t) name (.ref x)) Q E s:=by
 refine wpAny_tryMethod_declines (typeIs_int s i t) slot (wpAny_call (codeAny_call_builtin slot.plain entry (slot.check _ _ _ _ _ _ _ _ (typeIs_int s i t) args ?_)))
 rw [hB]
 exact Fv hx ⟨rfl,h⟩
theorem IL {Q:Option Value→Shared→Prop} {i:Int} {t:Tok} {x C dx:Addr} (hx:s.heap.get? x=some (instObj C dx)) (h:Q none s):wpAny (model prog w) A (tryMethod (.int i t) (PySem.dunder "add") (.ref x)) Q E s:=by
 obtain ⟨f,hf⟩:∃ f,Builtin.«int.__add__» = Builtin.Int.intBinary "__add__" f false:=by
  unfold Builtin.«int.__add__»
  exact ⟨_,rfl⟩
 have k1:=@Fw prog w A E s Q i t x C dx (PySem.dunder "add") "int.__add__" "__add__" Builtin.«int.__add__» f PySem.F.slot_int_add
 exact k1 PySem.F.entry_int_add (PySem.F.args_int_add_2 _ _) hf hx h
theorem IM {Q:Option Value→Shared→Prop} {i:Int} {t:Tok} {x C dx:Addr} (hx:s.heap.get? x=some (instObj C dx)) (h:Q none s):wpAny (model prog w) A (tryMethod (.int i t) (PySem.dunder "mul") (.ref x)) Q E s:=by
 obtain ⟨f,hf⟩:∃ f,Builtin.«int.__mul__» = Builtin.Int.intBinary "__mul__" f false:=by
  unfold Builtin.«int.__mul__»
  exact ⟨_,rfl⟩
 have k1:=@Fw prog w A E s Q i t x C dx (PySem.dunder "mul") "int.__mul__" "__mul__" Builtin.«int.__mul__» f PySem.F.slot_int_mul
 exact k1 PySem.F.entry_int_mul (PySem.F.args_int_mul_2 _ _) hf hx h
end
end PySem.W
namespace HS
open PySem PySem.Spec PyProof.Rows L2
def NK (X:Cx) (m:Value→Value→Sem Value) (r:L2.St→R2):Prop:=
 ∀ (pins:List (Addr×Obj)) (s:Shared) (σ:L2.St) (H:Hp) (x y:V) (v u:Value) (Q:VK),Inv X pins σ H s→RelV x v→RelV y u→r σ x y H Q→wpAny (model X.prog X.w) X.A (m v u) (EP X pins σ Q) X.xe s
def IP (r:L2.St→R2) (ta tb:TE):TE:=fun σ H Q=>ta σ H fun x H1=>tb σ H1 fun y H2=>r σ x y H2 Q
section
variable {X:Cx} {m:Value→Value→Sem Value} {r r':L2.St→R2} {r0:R2} {a b:Expr} {ta tb:TE} {pos:Pos}
theorem Fx {op:Operator} (ho:NK X (binaryOp op) r) (ha:PE X a ta) (hb:PE X b tb):PE X (.BinOp a op b pos) (IP r ta tb):=by
 constructor
 intro pins s σ H Q I h
 exact wpAny_BinOp (binT ha hb I h fun v u s2 x y H2 I2 rx ry q=>ho pins s2 σ H2 x y v u Q I2 rx ry q)
theorem IQ {op:CmpOp} (ho:NK X (compareOp op) r) (ha:PE X a ta) (hb:PE X b tb) (hm:behindInMarks op b=false):PE X (.Compare a [op] [b] pos) (IP r ta tb):=by
 constructor
 intro pins s σ H Q I h
 exact wpAny_Compare1 (binT ha hb I h fun v u s2 x y H2 I2 rx ry q=>ho pins s2 σ H2 x y v u Q I2 rx ry q) hm
theorem IS {op:CmpOp} (ho:NK X (compareOp op) r) (ha:PE X a ta) (hb:PE X b tb) (hm:behindInMarks op b=false):PT X (.Compare a [op] [b] pos) (tTest (IP r ta tb)):=by
 constructor
 intro pins s σ H Q I h
 refine wpAny_isTrue_Compare1 (thn (ha.run pins s σ H _ I h) ?_) hm
 rintro v s1 ⟨x,H1,I1,r1,q1⟩
 refine thn (hb.run pins s1 σ H1 _ I1 q1) ?_
 rintro u s2 ⟨y,H2,I2,r2,q2⟩
 refine thn (ho pins s2 σ H2 x y v u _ I2 r1 r2 q2) ?_
 rintro c s3 ⟨_,H3,I3,r3,k,rfl,q3⟩
 cases r3
 exact wpAny_truthy_bool ⟨H3,I3,q3⟩
end
theorem Om {X:Cx} {pins:List (Addr×Obj)} {σ:L2.St} {Q:VK} {u:Value} {s:Shared} (h:EP X pins σ Q u s):PySem.W.CmpBack (EP X pins σ Q) u s:=by
 obtain ⟨v,H,I,r,q⟩:=id h
 cases v with
 |non=>cases (show u=Value.none from r);exact h
 |bl b=>cases (show u=Value.bool b from r);exact h
 |int i=>obtain ⟨t,z⟩:=(show ∃ t,u=Value.int i t from r);cases z;exact h
 |str i=>obtain ⟨t,z⟩:=(show ∃ t,u=Value.str i t from r);cases z;exact h
 |byt i=>obtain ⟨t,z⟩:=(show ∃ t,u=Value.bytes i t from r);cases z;exact h
 |flt i=>obtain ⟨t,z⟩:=(show ∃ t,u=Value.float i t from r);cases z;exact h
 |ref a=>cases (show u=Value.ref a from r);exact h
 |ty n=>cases (show u=Value.type n from r);exact h
def H9 (C:Addr) (H:Hp) (x:V):Prop:=∃ a dx fs,x=.ref a∧H a=some (.ins C dx fs)
def Mf (C:Addr) (sp:Sp) (W:WX):L2.St→R2:=fun σ x y H Q=>H9 C H x∧(H9 C H y∨∃ j,y=.int j)∧sp [x,y] H Q (Fc W σ)
structure Bu (op:Operator):Prop where
 l:∀ K:Frag,∃ fo,findIn K (.type "int") (PySem.dunder op.info.2)=some fo
 r:∀ K:Frag,∃ ro,findIn K (.type "int") (dunderR op.info.2)=some ro
 dec:∀ {prog:Program} {w:World} {A:Around} {E:Value→Shared→Prop} {s:Shared} {Q:Option Value→Shared→Prop} {i:Int} {t:Tok} {x C dx:Addr},s.heap.get? x=some (PySem.W.instObj C dx)→Q none s→
  wpAny (model prog w) A (tryMethod (.int i t) (PySem.dunder op.info.2) (.ref x)) Q E s
theorem IU:Bu .Add:=⟨fun K=>⟨some (.builtin "int.__add__"),by kernel_rfl⟩,fun K=>⟨some (.builtin "int.__radd__"),by kernel_rfl⟩,fun h q=>PySem.W.IL h q⟩
theorem IV:Bu .Mult:=⟨fun K=>⟨some (.builtin "int.__mul__"),by kernel_rfl⟩,fun K=>⟨some (.builtin "int.__rmul__"),by kernel_rfl⟩,fun h q=>PySem.W.IM h q⟩
theorem IW (K:Frag) (C:Addr):subIn K (.type "int") (.ref C)=some false:=by kernel_rfl
section
variable {X:Cx} {W:WX} {k:Nat} {f C:Addr} {fd:FuncData} {sp:Sp} {op:Operator} {pins:List (Addr×Obj)} {σ:L2.St} {H:Hp} {s:Shared}
theorem inst_at {a dx:Addr} {fs:List (Str×V)} (I:Inv X pins σ H s) (e:H a=some (.ins C dx fs)):s.heap.get? a=some (PySem.W.instObj C dx)∧∃ od,PySem.W.InstAt s.heap a (PySem.W.instObj C dx) C (some od):=by
 obtain ⟨mA,O,_,_,_,_⟩:=ins_get I.hok e
 obtain ⟨od,J,_⟩:=O.look
 exact ⟨O.obj,od,J⟩
theorem bin1_left (io:Bu op) (o:PySem.W.NJ X.K C f op.info.2) (hn:∃ rc,findIn X.K (.ref C) (dunderR op.info.2)=some rc∧(rc=none∨∃ g:Addr,rc=some (.ref g)))
  (F:gG X.prog X.w X.K X.mg X.base k f fd ["self", "other"] sp) (hr:Rm k X.A) (tak:Takes X W) (hb:Binds X.K fd ["self", "other"] []) {x y:V} {v u:Value} {Q:VK} (I:Inv X pins σ H s) (rx:RelV x v) (ry:RelV y u) (q:Mf C sp W σ x y H Q) :
  wpAny (model X.prog X.w) X.A (binaryOp1 op.info.2 v u) (fun r s'=>∃ z,r=some z∧EP X pins σ Q z s') X.xe s:=by
 obtain ⟨⟨a,dx,fs,rfl,ea⟩,hy,q⟩:=q
 obtain rfl:v=Value.ref a:=rx
 obtain ⟨ob,od,J⟩:=inst_at I ea
 have one:wpAny (model X.prog X.w) X.A (call (.ref f) [.ref a,u]) (PySem.W.CmpBack (EP X pins σ Q)) X.xe s:=
  wpAny_mono (CP F hr tak I (vs:=[.ref a,y]) (gs:=[.ref a,u]) (by simpa using hb s [.ref a,u] I.kIn rfl) (.cons rfl (.cons ry .nil)) q) (fun _ _ z=>Om z) fun _ _ z=>z
 rcases hy with ⟨b,dy,gs,rfl,eb⟩|⟨j,rfl⟩
 ·obtain rfl:u=Value.ref b:=ry
  obtain ⟨VD,VE,J2⟩:=inst_at I eb
  exact PySem.W.II I.kIn J J2.type o one
 ·obtain ⟨t,rfl⟩:=ry
  obtain ⟨rc,hr1,hr2⟩:=hn
  obtain ⟨fo,h1⟩:=io.l X.K
  obtain ⟨ro,h2⟩:=io.r X.K
  exact PySem.W.IJ (T := "int") I.kIn J (PySem.W.Looks.of_pure rfl) o hr1 hr2 h1 h2 (IW _ _) one
theorem Bv (io:Bu op) (o:PySem.W.NJ X.K C f op.info.2) (hn:∃ rc,findIn X.K (.ref C) (dunderR op.info.2)=some rc∧(rc=none∨∃ g:Addr,rc=some (.ref g)))
  (F:gG X.prog X.w X.K X.mg X.base k f fd ["self", "other"] sp) (hr:Rm k X.A) (tak:Takes X W) (hb:Binds X.K fd ["self", "other"] []):NK X (binaryOp op) (Mf C sp W):=
 fun pins s σ H x y v u Q I rx ry q=>PySem.W.Me (bin1_left io o hn F hr tak hb I rx ry q)
end
end HS
namespace HS
open PySem PySem.Spec PyProof.Rows L2
structure pB (K:Frag) (C:Addr):Prop where
 cls:Cls K C
 ha:findIn K (.ref C) "__class__" = some (some (.builtin "object.__class__"))
 hn:PySem.W.specialIn K (.builtin "object.__class__") "__get__" = some (some (.builtin "getset_descriptor.__get__"))
 htk:PySem.W.takesIn K (.builtin "object.__class__")=some true
 hm:mroIn K C (.type "object")=some true
 hcl:(clsIn K C).isSome=true
 ty:typeIn K (.ref C)=some (.type "type")
 first:PySem.W.selfFirst K C=true
 nb:xr K C=true
section
variable {K:Frag} {H H':Hp} {C C':Addr} {x:V} {d:PyData} {Q:VK}
theorem pB.tyOf (o:pB K C) (h:H9 C H x):Ty K H x (.ref C):=by
 obtain ⟨a,dx,fs,rfl,e⟩:=h
 exact .x (.base (.ins e o.cls o.ha o.hn o.htk o.hm))
theorem pB.no (o:pB K C) {n:String} (h:n∈iw):kitOne K (.ref C) (.type n)=some false:=by
 have q:=List.all_eq_true.mp o.nb n h
 unfold kitOne
 rw [if_neg (by simp)]
 show (if PySem.W.kitMeta n=true then subIn K (.ref C) (.type n) else none)=some false
 rw [beq_iff_eq.mp q]
 unfold iw at h
 simp only [List.mem_cons,List.mem_nil_iff,or_false] at h
 rcases h with rfl |rfl |rfl |rfl |rfl |rfl <;> rfl
theorem pB.data (o:pB K C) (d:PyData):kitOne K (.type (H8 d)) (.ref C)=some false:=by
 unfold kitOne
 rw [if_neg (by simp)]
 show (if ((clsIn K C).isSome&&typeIn K (.ref C) == some (.type "type"))=true then subIn K (.type (H8 d)) (.ref C) else none)=some false
 rw [o.hcl,o.ty,if_pos (by simp)]
 cases d <;> kernel_rfl
end
section
variable {X:Cx} {W:WX} {k:Nat} {f C:Addr} {fd:FuncData} {ps:List Str} {sp:Sp} {pins:List (Addr×Obj)} {σ:L2.St} {H:Hp} {s:Shared} {Q:VK}
theorem KP {us gs:List Value} {kw:List (Str×Value)} {vs:List V} (F:gG X.prog X.w X.K X.mg X.base k f fd ps sp) (hr:Rm (k+1) X.A) (tk:Takes X W)
  (I:Inv X pins σ H s) (hb:BindsTo s fd ⟨us,kw⟩ (ps.zip gs)) (r:Vals vs gs) (h:sp vs H Q (Fc W σ)):wpAny (model X.prog X.w) X.A.in1 (call (.ref f) us kw) (EP X pins σ Q) X.xe s:=by
 refine wpAny_call (codeAny_mono (F.run X.A.in1 X.stack s H ⟨us,kw⟩ gs vs Q _ hr.in1 I.env0.in1 hb r h) fun r s' hq=>?_)
 have z:=xA tk I hq
 cases r with
 |error e=>exact z
 |ok fl=>cases fl <;> exact z
def Tw (C:Addr) (sp:Sp):V→Hp→VK→Prop:=fun x H Q=>H9 C H x∧sp [x] H Q fun _ _ _=>False
theorem Bw (hs:findIn X.K (.ref C) "__neg__" = some (some (.ref f))) (hf:isFn X.K (.ref f)=true) (F:gG X.prog X.w X.K X.mg X.base k f fd ["self"] sp) (hr:Rm k X.A) (hb:Binds X.K fd ["self"] []) :
  UnR X (unaryOp .USub) (Tw C sp):=by
 intro pins s σ H x v Q I rx q
 obtain ⟨⟨a,dx,fs,rfl,ea⟩,q⟩:=q
 obtain rfl:v=Value.ref a:=rx
 obtain ⟨ob,od,J⟩:=inst_at I ea
 obtain ⟨m,Fr⟩:=I.fr
 exact PySem.W.ksp_neg Fr I.ok.mod.kin J hs hf (CP F hr ay I (vs:=[.ref a]) (gs:=[.ref a]) (by simpa using hb s [.ref a] I.kIn rfl) (.cons rfl .nil) q)
end
theorem Mg {X:Cx} {C:Addr} {bmB:List Value} {B newId initId:String} {x:Str} {p pos:Pos} (F:ExcBaseFacts B newId initId bmB) (q:PySem.W.excIn X.K C bmB newId=true) (gC:X.mg x=some (.ref C)) (kC:keepIn X.K (.ref C)=true)
  (r:Raises X (.ref C)) (hg:Gl X x) (hdb:(x == ("__debug__" : Str))=false:=by decide):PMk X (.Call (.Name x p) [] [] pos) (fun _ H Q=>Q (.ref C) none H):=by
 intro pins s σ H Q I h
 refine wpAny_Call_Name_kw (ld_glob I hg gC (PySem.W.callWith_K0 I.kIn kC ?_) hdb)
 show wpAny _ _ (call (.ref C) []) _ _ _
 obtain ⟨bm,N,nm,qn,bs,hdct,sn,sub,ab,col,dd,k0,k1,k2,k3,k5,mN,hC,hN,hni,T⟩:=exc_obj I.kIn q
 refine wpAny_call_exc_subT F T hC hN hni (fun h' e hm=>?_) (by show 0≤sizeLine;decide)
 exact mk_of I hm r h (I.hok.gone hm.new)
theorem Fy {X:Cx} {e:Expr}:PE X e (fun _ _ _=>False):=⟨fun _ _ _ _ _ _ h=>h.elim⟩
end HS
namespace PySem.W
open PySem PySem.Calls PyProof.Rows
section
variable {prog:Program} {w:World} {A:Around} {E:Value→Shared→Prop} {s:Shared} {K:Frag} {x C f dx:Addr} {ox:Obj} {od:Option Obj}
theorem Mh {b:Value} {name:Str} {Q:Value→Shared→Prop} (X:K.In s.heap) (I:InstAt s.heap x ox C od) (hs:findIn K (.ref C) name=some (some (.ref f))) (hf:isFn K (.ref f)=true)
  (h:wpAny (model prog w) A (call (.ref f) [.ref x,b]) (CmpBack Q) E s):wpAny (model prog w) A (tryCompare (.ref x) name b) (fun r s'=>∃ v,r=some v∧Q v s') E s:=by
 unfold tryCompare
 refine wpAny_bind (ifBound_K X I hs hf (wpAny_mono h (fun v s' hv=>?_) fun _ _ e=>e))
 cases v <;> first |exact hv.elim |exact wpAny_pure ⟨_,rfl,hv⟩
theorem Bx {op:CmpOp} {b tb:Value} {Q:Value→Shared→Prop} (hu:A.units<cLine) (X:K.In s.heap) (I:InstAt s.heap x ox C od) (hb:Looks (model prog w) s.heap (typeOf b) tb) (hn:notFirst K C tb=true)
  (one:wpAny (model prog w) A (tryCompare (.ref x) (cmpInfo op).2.1 b) (fun r s'=>∃ v,r=some v∧Q v s') E s):wpAny (model prog w) A (richCompare op (.ref x) b) Q E s:=by
 rcases hi:cmpInfo op with ⟨sym,a,r⟩
 rw [hi] at one
 unfold richCompare
 rw [oneThing_ref,hi]
 refine wpAny_holding (wpAny_bind (wpAny_cRoomFor hu ?_))
 dsimp only
 refine wpAny_bind (I.type.here (wpAny_bind (hb.here ?_)))
 split
 ·rename_i q
  have e:subIn K tb (.ref C)=some false:=by
   rcases Bool.or_eq_true_iff.mp hn with e |e
   ·rw [beq_iff_eq.mp e] at q
    simp at q
   ·exact beq_iff_eq.mp e
  refine wpAny_bind ((looks_subIn X e).here ?_)
  simp only [Bool.false_eq_true,if_false]
  refine wpAny_bind (wpAny_mono one (fun r s' z=>?_) fun _ _ e=>e)
  obtain ⟨v,rfl,hq⟩:=z
  exact wpAny_pure hq
 ·refine wpAny_bind (wpAny_pure ?_)
  simp only [Bool.false_eq_true,if_false]
  refine wpAny_bind (wpAny_mono one (fun r s' z=>?_) fun _ _ e=>e)
  obtain ⟨v,rfl,hq⟩:=z
  exact wpAny_pure hq
theorem Fz {b:Value} {Q:Option Value→Shared→Prop} (hu:A.in1.units<cLine) (X:K.In s.heap) (I:InstAt s.heap x ox C od) (hm:mroIn K C (.type "object")=some true) (hne:findIn K (.ref C) "__ne__" = some (some (.builtin "object.__ne__")))
  (hs:findIn K (.ref C) "__eq__" = some (some (.ref f))) (hf:isFn K (.ref f)=true) (h:wpAny (model prog w) A.in1 (call (.ref f) [.ref x,b]) (fun v s'=>∃ c,v=.bool c∧Q (some (.bool (!c))) s') E s) :
  wpAny (model prog w) A (tryCompare (.ref x) "__ne__" b) Q E s:=by
 unfold tryCompare
 refine wpAny_bind (NtL.csib (I.type.andThen (looks_findIn X hne)) (PySem.F.slot_object_ne.bind _) ?_)
 refine wpAny_call (codeAny_call_builtin PySem.F.slot_object_ne.plain PySem.F.entry_object_ne (check_slot (i := "object.__ne__") (owner := "object") (n := "__ne__") (by decide +kernel) (by decide +kernel) (I.type.andThen (looks_mroIn X hm)) (PySem.F.args_object_ne_2 _ _) ?_))
 unfold Builtin.«object.__ne__»
 refine wpAny_bind (m:=slotArgs "__ne__" 1 _) (wpAny_pure ?_)
 dsimp only
 refine wpAny_bind (m:=cRoomFor _ _) (wpAny_cRoomFor hu ?_)
 refine wpAny_bind (m:=callSpecialIfBound? (.ref x) (Str.ofString "__eq__") _) (ifBound_K X I hs hf (wpAny_mono h (fun r s' hq=>?_) fun _ _ y=>y))
 obtain ⟨c,rfl,hq⟩:=hq
 refine wpAny_bind (m:=truthy (.bool c)) (wpAny_truthy_bool ?_)
 exact wpAny_pure (wpAny_pure hq)
end
end PySem.W
namespace HS
open PySem PySem.Spec PyProof.Rows L2
section
variable {X:Cx} {pins:List (Addr×Obj)} {σ:L2.St} {H:Hp} {s:Shared} {Q:VK} {W:WX} {k:Nat} {f C:Addr} {fd:FuncData} {sp:Sp} {op:CmpOp}
theorem IY {M:Model} {v:V} {u:Value} {d:PyData} (I:Inv X pins σ H s) (r:RelV v u) (h:Rd X.K H v d):PySem.W.Looks M s.heap (typeOf u) (.type (H8 d)):=by
 cases h with
 |non=>cases (show u=Value.none from r);exact .of_pure rfl
 |bl b=>cases (show u=Value.bool b from r);exact .of_pure rfl
 |int i=>obtain ⟨t,z⟩:=(show ∃ t,u=Value.int i t from r);cases z;exact .of_pure rfl
 |str x=>obtain ⟨t,z⟩:=(show ∃ t,u=Value.str x t from r);cases z;exact .of_pure rfl
 |lst hs hn ha=>
  cases r
  obtain ⟨its,rv,⟨o,n,ho,hc,_⟩,_⟩:=I.list hs
  exact fun A Q E s' kp q=>wpAny_typeOf_ref (kp _ _ ho) (by rw [hc];exact q)
 |tup hs ha=>
  cases r
  obtain ⟨its,rv,⟨o,ho,hc,_⟩,_⟩:=I.tuple hs
  exact fun A Q E s' kp q=>wpAny_typeOf_ref (kp _ _ ho) (by rw [hc];exact q)
 |@dct a ks vs ds hs hl ha=>
  cases r
  obtain ⟨_,hn,ps,hp,o,es,ep,ho,hx,_⟩:ObjOk X.prog X.w H s.heap a (.dK (ks.zip vs)):=L2.Rd.ok hs I.hok
  exact fun A Q E s' kp q=>wpAny_typeOf_ref (kp _ _ ho) (by rw [hx.1];exact q)
theorem CV (K:Frag) (C:Addr) (d:PyData):PySem.W.notFirst K C (.type (H8 d))=true:=by
 unfold PySem.W.notFirst
 have e:subIn K (.type (H8 d)) (.ref C)=some false:=by cases d <;> kernel_rfl
 rw [e]
 simp
def IZ (K:Frag) (C:Addr) (H:Hp) (y:V):Prop:=H9 C H y∨∃ d,Rd K H y d
theorem By {M:Model} {y:V} {u:Value} (I:Inv X pins σ H s) (r:RelV y u) (h:IZ X.K C H y):∃ tb,PySem.W.Looks M s.heap (typeOf u) tb∧PySem.W.notFirst X.K C tb=true:=by
 rcases h with ⟨b,dy,gs,rfl,eb⟩|⟨d,h⟩
 ·obtain rfl:u=Value.ref b:=r
  obtain ⟨VD,VE,J2⟩:=inst_at I eb
  exact ⟨_,J2.type,by unfold PySem.W.notFirst;simp⟩
 ·exact ⟨_,IY I r h,CV _ _ _⟩
def KQ (K:Frag) (C:Addr) (sp:Sp):L2.St→R2:=fun _ x y H Q=>H9 C H x∧IZ K C H y∧sp [x,y] H Q fun _ _ _=>False
def KS (K:Frag) (C:Addr) (sp:Sp):L2.St→R2:=fun _ x y H Q=>H9 C H x∧IZ K C H y∧sp [x,y] H (fun v H'=>∃ c,v=.bl c∧Q (.bl (!c)) H') fun _ _ _=>False
theorem FA {A:Around} (hr:Rm k A):A.units<cLine:=by have:=hr.room.units;omega
theorem os_eq (hs:findIn X.K (.ref C) "__eq__" = some (some (.ref f))) (hf:isFn X.K (.ref f)=true) (F:gG X.prog X.w X.K X.mg X.base k f fd ["self", "other"] sp) (hr:Rm k X.A) (hb:Binds X.K fd ["self", "other"] []) :
  NK X (compareOp .Eq) (KQ X.K C sp):=by
 intro pins s σ H x y v u Q I rx ry q
 obtain ⟨⟨a,dx,fs,rfl,ea⟩,hy,q⟩:=q
 obtain rfl:v=Value.ref a:=rx
 obtain ⟨ob,od,J⟩:=inst_at I ea
 obtain ⟨tb,ht,hn⟩:=By (M:=model X.prog X.w) I ry hy
 exact PySem.W.Bx (op:=.Eq) (FA hr) I.kIn J ht hn (PySem.W.Mh I.kIn J hs hf (wpAny_mono (CP F hr ay I (vs:=[.ref a,y]) (gs:=[.ref a,u]) (by simpa using hb s [.ref a,u] I.kIn rfl) (.cons rfl (.cons ry .nil)) q) (fun _ _ z=>Om z) fun _ _ z=>z))
theorem Mi {y:V} {u:Value} {a:Addr} (F:gG X.prog X.w X.K X.mg X.base k f fd ["self", "other"] sp) (hr:Rm (k+1) X.A) (hb:Binds X.K fd ["self", "other"] []) (I:Inv X pins σ H s) (ry:RelV y u)
  (q:sp [.ref a,y] H (fun v H'=>∃ c,v=.bl c∧Q (.bl (!c)) H') fun _ _ _=>False) :
  wpAny (model X.prog X.w) X.A.in1 (call (.ref f) [.ref a,u]) (fun v s'=>∃ c,v=.bool c∧(fun r s'=>∃ v,r=some v∧EP X pins σ Q v s') (some (.bool (!c))) s') X.xe s:=by
 refine wpAny_mono (KP F hr ay I (vs:=[.ref a,y]) (gs:=[.ref a,u]) (by simpa using hb s [.ref a,u] I.kIn rfl) (.cons rfl (.cons ry .nil)) q) ?_ fun _ _ z=>z
 rintro v s' ⟨_,H',I',rv,c,rfl,q'⟩
 cases rv
 exact ⟨c,rfl,_,rfl,.bl (!c),H',I',rfl,q'⟩
theorem Oo (o:pB X.K C) (hne:findIn X.K (.ref C) "__ne__" = some (some (.builtin "object.__ne__"))) (hs:findIn X.K (.ref C) "__eq__" = some (some (.ref f))) (hf:isFn X.K (.ref f)=true) (F:gG X.prog X.w X.K X.mg X.base k f fd ["self", "other"] sp)
  (hr:Rm (k+1) X.A) (hb:Binds X.K fd ["self", "other"] []):NK X (compareOp .NotEq) (KS X.K C sp):=by
 intro pins s σ H x y v u Q I rx ry q
 obtain ⟨⟨a,dx,fs,rfl,ea⟩,hy,q⟩:=q
 obtain rfl:v=Value.ref a:=rx
 obtain ⟨ob,od,J⟩:=inst_at I ea
 obtain ⟨tb,ht,hn⟩:=By (M:=model X.prog X.w) I ry hy
 exact PySem.W.Bx (op:=.NotEq) (FA hr) I.kIn J ht hn (PySem.W.Fz (FA hr.in1) I.kIn J o.hm hne hs hf (Mi F hr hb I ry q))
end
end HS
namespace PySem.W
open PySem PySem.Calls PyProof.Rows
section
variable {prog:Program} {w:World} {A:Around} {E:Value→Shared→Prop} {s:Shared} {K:Frag} {x C f:Addr} {ox:Obj} {od:Option Obj}
theorem CW {Q:Bool→Shared→Prop} (X:K.In s.heap) (I:InstAt s.heap x ox C od) (hs:findIn K (.ref C) "__bool__" = some (some (.ref f))) (hf:isFn K (.ref f)=true)
  (h:wpAny (model prog w) A (call (.ref f) [.ref x]) (BoolBack Q) E s):wpAny (model prog w) A (truthy (.ref x)) Q E s:=by
 unfold truthy
 refine wpAny_bind (m:=callSpecial? (.ref x) (Str.ofString "__bool__")) (special_fn X I hs (beq_iff_eq.mp hf) (wpAny_mono h (fun r s' hr=>?_) fun _ _ y=>y))
 cases r <;> first |exact hr.elim |exact wpAny_pure hr
open Builtin in
end
end PySem.W
namespace HS
open PySem PySem.Spec PyProof.Rows L2
section
variable {X:Cx} {k:Nat} {f C:Addr} {fd:FuncData} {sp:Sp}
def Ri (C:Addr) (sp:Sp):V→Hp→(Bool→Hp→Prop)→Prop:=fun x H Q=>H9 C H x∧sp [x] H (fun v H'=>∃ c,v=.bl c∧Q c H') fun _ _ _=>False
theorem Oq {pins:List (Addr×Obj)} {σ:L2.St} {Q:Bool→Hp→Prop} {u:Value} {s:Shared} (h:EP X pins σ (fun v H'=>∃ c,v=.bl c∧Q c H') u s):PySem.W.BoolBack (TP X pins σ Q) u s:=by
 obtain ⟨_,H',I,r,c,rfl,q⟩:=h
 cases r
 exact ⟨H',I,q⟩
theorem I5 (hs:findIn X.K (.ref C) "__bool__" = some (some (.ref f))) (hf:isFn X.K (.ref f)=true) (F:gG X.prog X.w X.K X.mg X.base k f fd ["self"] sp) (hr:Rm k X.A) (hb:Binds X.K fd ["self"] []):TruR X (Ri C sp):=by
 intro pins s σ H x v Q I rx q
 obtain ⟨⟨a,dx,fs,rfl,ea⟩,q⟩:=q
 obtain rfl:v=Value.ref a:=rx
 obtain ⟨ob,od,J⟩:=inst_at I ea
 exact PySem.W.CW I.kIn J hs hf (wpAny_mono (CP F hr ay I (vs:=[.ref a]) (gs:=[.ref a]) (by simpa using hb s [.ref a] I.kIn rfl) (.cons rfl .nil) q) (fun _ _ z=>Oq z) fun _ _ z=>z)
end
theorem Ot {X:Cx} {tg e:Expr} {w1 w2:TI} (a:PI X tg e w1) (b:PI X tg e w2):PI X tg e (fun σ H R=>w1 σ H R∨w2 σ H R):=⟨fun pins s σ H R I h=>h.elim (a.run pins s σ H R I) (b.run pins s σ H R I)⟩
theorem FD {X:Cx} {st:Stmt} {wi:TI} {g gg:TG} {tt:TT} {te:TE} {vs:List Nat} (h:PS X st (tAsg (tLc wi g tt te vs) gg)):PS X st (tAsg (AF wi g tt te vs) gg):=by
 unfold AF
 exact h
end HS
namespace HS
open PySem PySem.Spec PyProof.Rows L2
def wc:HO→Bool
 |.tbl _=>false
 |.ext _=>false
 |_=>true
def kM:HO→Bool
 |.tbl _=>true
 |_=>false
def Ou:HO→Bool
 |.tup _=>true
 |o=>kM o
theorem FE {u:HO} (h:wc u=true):kM u=false:=by cases u <;> first |rfl |cases h
theorem yR {T:List (Addr×Str)} {H H':Hp} {a:Addr} (t:LamX.Tabs T H) (e:∀ b o,b≠a→H b=some o→H' b=some o) (n:∀ u,H a=some u→wc u=true):LamX.Tabs T H':=by
 intro p hp
 obtain ⟨ps,h1,h2,h3⟩:=t p hp
 refine ⟨ps,e _ _ (fun z=>?_) h1,h2,fun pos cv hc=>?_⟩
 ·rw [z] at h1
  cases n _ h1
 ·obtain ⟨c,e1,e2⟩:=h3 pos cv hc
  refine ⟨c,e1,e _ _ (fun z=>?_) e2⟩
  rw [z] at e2
  cases n _ e2
theorem j4 {T:List (Addr×Str)} {H:Hp} {a:Addr} {v:HO} (t:LamX.Tabs T H) (n:∀ u,H a=some u→wc u=true):LamX.Tabs T (upd H a v):=
 yR t (fun b o h e=>by rw [upd_ne h];exact e) n
inductive Dt where
 |non |bl (b:Bool)|int (i:Int)|str (x:Str)|raw (v:V)
 |BA (ns:List Int)|lst (xs:List Dt)|tup (xs:List Dt)|dct (kvs:List (Key×Dt))|yS (kvs:List (List Key×Dt))
 |ins (C:Addr) (fs:List (Str×Dt))|exc (C:Addr) (fs:List (Str×Dt))|mix (ks:List Dt)
def ct:HO→HO
 |.frz _ (.dK kvs)=>.dK kvs
 |.frz _ (.dT kvs)=>.dT kvs
 |o=>o
def fH:HO→Bool
 |.dK _=>false
 |.dT _=>false
 |.frz _ (.dK _)=>false
 |.frz _ (.dT _)=>false
 |_=>true
theorem I6 {o o':HO} (h:fH o=true) (e:ct o'=ct o):o'=o:=by
 have e1:ct o=o:=by
  cases o with
  |frz x u=>cases u <;> first |rfl |cases h
  |_=>rfl
 rw [e1] at e
 cases o' with
 |frz x u=>cases u <;> first |exact e |(subst e;cases h)
 |_=>exact e
def SF (G G':Hp):Prop:=∀ a o,G a=some o→∃ o',G' a=some o'∧ct o'=ct o
section
variable {G G1 G2 H:Hp} {a:Addr} {o:HO}
theorem SF.refl:SF G G:=fun _ o h=>⟨o,h,rfl⟩
theorem SF.trans (s:SF G G1) (t:SF G1 G2):SF G G2:=fun a o h=>by
 obtain ⟨o1,h1,e1⟩:=s a o h
 obtain ⟨o2,h2,e2⟩:=t a o1 h1
 exact ⟨o2,h2,e2.trans e1⟩
theorem SF.of (s:Same G G1):SF G G1:=fun a o h=>⟨o,s a o h,rfl⟩
theorem SF.fH (s:SF G G1) (h:G a=some o) (hh:HS.fH o=true):G1 a=some o:=by
 obtain ⟨o1,h1,e1⟩:=s a o h
 rw [I6 hh e1] at h1
 exact h1
theorem SF.free (s:SF G G1) (h:G1 a=none):G a=none:=by
 cases e:G a with
 |none=>rfl
 |some o=>
  obtain ⟨o1,h1,_⟩:=s a o e
  rw [h] at h1
  cases h1
theorem SF.upd (h:G a=none):SF G (L2.upd G a o):=.of (j3 h)
theorem SF.I7 (s:SF G H):SF (L2.upd G a o) (L2.upd H a o):=fun b u h=>by
 by_cases e:b=a
 ·subst e
  rw [upd_same] at h ⊢
  cases h
  exact ⟨_,rfl,rfl⟩
 ·rw [upd_ne e] at h ⊢
  exact s b u h
theorem SF.off (s:SF G H) (h:G a=Option.none):SF G (L2.upd H a o):=fun b u e=>by
 have n:b≠a:=fun z=>by rw [z,h] at e;cases e
 rw [upd_ne n]
 exact s b u e
end
mutual
inductive Rp (K:Frag) (G:Hp):V→Dt→Prop
 |non:Rp K G .non .non
 |bl (b:Bool):Rp K G (.bl b) (.bl b)
 |int (i:Int):Rp K G (.int i) (.int i)
 |str (x:Str):Rp K G (.str x) (.str x)
 |raw (v:V):Rp K G v (.raw v)
 |BA {a:Addr} {ns:List Int}:SqL K G a (ns.map V.int)→a≠sysModules→Rp K G (.ref a) (.BA ns)
 |lst {a:Addr} {xs:List V} {ds:List Dt}:G a=some (.lst xs)→a≠sysModules→dh K G xs ds→Rp K G (.ref a) (.lst ds)
 |tup {a:Addr} {xs:List V} {ds:List Dt} (h:SqT K G a xs) (t:dh K G xs ds) (st:G a=some (.tup xs):=by first |exact upd_same |assumption):Rp K G (.ref a) (.tup ds)
 |dct {a:Addr} {o:HO} {kvs:List (Key×V)} {ds:List (Key×Dt)}:G a=some o→ct o=.dK kvs→gW K G kvs ds→Rp K G (.ref a) (.dct ds)
 |yS {a:Addr} {o:HO} {kvs:List (List Key×V)} {ds:List (List Key×Dt)}:G a=some o→ct o=.dT kvs→DV K G kvs ds→Rp K G (.ref a) (.yS ds)
 |ins {a C dx:Addr} {fs:List (Str×V)} {ds:List (Str×Dt)}:G a=some (.ins C dx fs)→qC K G fs ds→Rp K G (.ref a) (.ins C ds)
 |FF {a C:Addr}:G a=some (Bp a (.ref C) none)→Rp K G (.ref a) (.exc C [])
 |exc {a C dd:Addr} {fs:List (Str×V)} {ds:List (Str×Dt)}:G a=some (Bp a (.ref C) (some dd))→G dd=some (.xd fs)→qC K G fs ds→Rp K G (.ref a) (.exc C ds)
 |mix {a:Addr} {o:Obj} {vs:List V} {ds:List Dt}:G a=some (.frz o (qL a vs))→dh K G vs ds→Rp K G (.ref a) (.mix ds)
inductive dh (K:Frag) (G:Hp):List V→List Dt→Prop
 |nil:dh K G [] []
 |cons {v:V} {vs:List V} {d:Dt} {ds:List Dt}:Rp K G v d→dh K G vs ds→dh K G (v::vs) (d::ds)
inductive qC (K:Frag) (G:Hp):List (Str×V)→List (Str×Dt)→Prop
 |nil:qC K G [] []
 |cons {f:Str} {v:V} {vs:List (Str×V)} {d:Dt} {ds:List (Str×Dt)}:Rp K G v d→qC K G vs ds→qC K G ((f,v)::vs) ((f,d)::ds)
inductive gW (K:Frag) (G:Hp):List (Key×V)→List (Key×Dt)→Prop
 |nil:gW K G [] []
 |cons {f:Key} {v:V} {vs:List (Key×V)} {d:Dt} {ds:List (Key×Dt)}:Rp K G v d→gW K G vs ds→gW K G ((f,v)::vs) ((f,d)::ds)
inductive DV (K:Frag) (G:Hp):List (List Key×V)→List (List Key×Dt)→Prop
 |nil:DV K G [] []
 |cons {f:List Key} {v:V} {vs:List (List Key×V)} {d:Dt} {ds:List (List Key×Dt)}:Rp K G v d→DV K G vs ds→DV K G ((f,v)::vs) ((f,d)::ds)
end
section
variable {K:Frag} {G G':Hp}
theorem SF.seq (s:SF G G') {a:Addr} {xs:List V} (h:SqL K G a xs):SqL K G' a xs:=by
 rcases h with (h |⟨o,h⟩)|h
 ·exact .inl (.inl (s.fH h rfl))
 ·exact .inl (.inr ⟨o,s.fH h rfl⟩)
 ·exact .inr h
theorem SF.tup (s:SF G G') {a:Addr} {xs:List V} (h:SqT K G a xs):SqT K G' a xs:=by
 rcases h with (h |⟨o,h⟩)|h
 ·exact .inl (.inl (s.fH h rfl))
 ·exact .inl (.inr ⟨o,s.fH h rfl⟩)
 ·exact .inr h
mutual
theorem Rp.sf (s:SF G G'):∀ {v:V} {d:Dt},Rp K G v d→Rp K G' v d
 |_,_,.non=>.non
 |_,_,.bl b=>.bl b
 |_,_,.int i=>.int i
 |_,_,.str x=>.str x
 |_,_,.raw v=>.raw v
 |_,_,.BA h n=>.BA (s.seq h) n
 |_,_,.lst h n t=>.lst (s.fH h rfl) n (dh.sf s t)
 |_,_,.tup h t st=>.tup (s.tup h) (dh.sf s t) (s.fH st rfl)
 |_,_,.dct h e t=>by
  obtain ⟨o',h',e'⟩:=s _ _ h
  exact .dct h' (e'.trans e) (gW.sf s t)
 |_,_,.yS h e t=>by
  obtain ⟨o',h',e'⟩:=s _ _ h
  exact .yS h' (e'.trans e) (DV.sf s t)
 |_,_,.ins h t=>.ins (s.fH h rfl) (qC.sf s t)
 |_,_,.FF h=>.FF (s.fH h rfl)
 |_,_,.exc h g t=>.exc (s.fH h rfl) (s.fH g rfl) (qC.sf s t)
 |_,_,.mix h t=>.mix (s.fH h rfl) (dh.sf s t)
theorem dh.sf (s:SF G G'):∀ {vs:List V} {ds:List Dt},dh K G vs ds→dh K G' vs ds
 |_,_,.nil=>.nil
 |_,_,.cons h t=>.cons (Rp.sf s h) (dh.sf s t)
theorem qC.sf (s:SF G G'):∀ {vs:List (Str×V)} {ds:List (Str×Dt)},qC K G vs ds→qC K G' vs ds
 |_,_,.nil=>.nil
 |_,_,.cons h t=>.cons (Rp.sf s h) (qC.sf s t)
theorem gW.sf (s:SF G G'):∀ {vs:List (Key×V)} {ds:List (Key×Dt)},gW K G vs ds→gW K G' vs ds
 |_,_,.nil=>.nil
 |_,_,.cons h t=>.cons (Rp.sf s h) (gW.sf s t)
theorem DV.sf (s:SF G G'):∀ {vs:List (List Key×V)} {ds:List (List Key×Dt)},DV K G vs ds→DV K G' vs ds
 |_,_,.nil=>.nil
 |_,_,.cons h t=>.cons (Rp.sf s h) (DV.sf s t)
end
theorem dh.length:∀ {vs:List V} {ds:List Dt},dh K G vs ds→vs.length=ds.length
 |_,_,.nil=>rfl
 |_,_,.cons _ t=>congrArg Nat.succ t.length
theorem dh.append:∀ {vs ws:List V} {ds es:List Dt},dh K G vs ds→dh K G ws es→dh K G (vs++ws) (ds++es)
 |_,_,_,_,.nil,q=>q
 |_,_,_,_,.cons h t,q=>.cons h (t.append q)
theorem dh.get:∀ {vs:List V} {ds:List Dt} {i:Nat} {d:Dt},dh K G vs ds→ds[i]? = some d→∃ v,vs[i]? = some v∧Rp K G v d
 |_,_,i,d,.nil,e=>by simp at e
 |_,_,0,d,.cons h t,e=>by
  simp at e
  subst e
  exact ⟨_,rfl,h⟩
 |_,_,i+1,d,.cons h t,e=>by
  obtain ⟨v,e1,r⟩:=dh.get (i:=i) t (by simpa using e)
  exact ⟨v,by simpa using e1,r⟩
theorem dh.Ov:∀ {vs:List V} {ds:List Dt} {i:Nat} {v:V},dh K G vs ds→vs[i]? = some v→∃ d,ds[i]? = some d∧Rp K G v d
 |_,_,i,d,.nil,e=>by simp at e
 |_,_,0,d,.cons h t,e=>by
  simp at e
  subst e
  exact ⟨_,rfl,h⟩
 |_,_,i+1,d,.cons h t,e=>by
  obtain ⟨v,e1,r⟩:=dh.Ov (i:=i) t (by simpa using e)
  exact ⟨v,by simpa using e1,r⟩
theorem dh.take (n:Nat):∀ {vs:List V} {ds:List Dt},dh K G vs ds→dh K G (vs.take n) (ds.take n):=by
 induction n with
 |zero=>intros;exact .nil
 |succ n ih=>
  intro vs ds h
  cases h with
  |nil=>exact .nil
  |cons h t=>exact .cons h (ih t)
theorem dh.drop (n:Nat):∀ {vs:List V} {ds:List Dt},dh K G vs ds→dh K G (vs.drop n) (ds.drop n):=by
 induction n with
 |zero=>intro vs ds h;exact h
 |succ n ih=>
  intro vs ds h
  cases h with
  |nil=>exact .nil
  |cons h t=>exact ih t
theorem qC.lookup:∀ {vs:List (Str×V)} {ds:List (Str×Dt)} {f:Str} {d:Dt},qC K G vs ds→ds.lookup f=some d→∃ v,vs.lookup f=some v∧Rp K G v d
 |_,_,f,d,.nil,e=>by cases e
 |_,_,f,d,.cons (f:=g) h t,e=>by
  rw [List.lookup_cons] at e ⊢
  cases q:f == g with
  |true=>
   rw [q] at e
   cases e
   exact ⟨_,rfl,h⟩
  |false=>
   rw [q] at e
   exact qC.lookup t e
theorem qC.no:∀ {vs:List (Str×V)} {ds:List (Str×Dt)} {f:Str},qC K G vs ds→ds.lookup f=none→vs.lookup f=none
 |_,_,f,.nil,e=>rfl
 |_,_,f,.cons (f:=g) h t,e=>by
  rw [List.lookup_cons] at e ⊢
  cases q:f == g with
  |true=>
   rw [q] at e
   cases e
  |false=>
   rw [q] at e
   exact qC.no t e
theorem qC.length:∀ {vs:List (Str×V)} {ds:List (Str×Dt)},qC K G vs ds→vs.length=ds.length
 |_,_,.nil=>rfl
 |_,_,.cons _ t=>congrArg Nat.succ t.length
end
def putD (f:Str) (v:Dt):List (Str×Dt)→List (Str×Dt)
 |[]=>[(f,v)]
 |(g,x)::r=>if g=f then (g,v)::r else (g,x)::putD f v r
theorem qC.put {K:Frag} {G:Hp} {f:Str} {v:V} {d:Dt} (h:Rp K G v d):∀ {vs:List (Str×V)} {ds:List (Str×Dt)},qC K G vs ds→qC K G (putF f v vs) (putD f d ds)
 |_,_,.nil=>.cons h .nil
 |_,_,.cons (f:=g) q t=>by
  unfold putF putD
  by_cases e:g=f
  ·rw [if_pos e,if_pos e]
   exact .cons h t
  ·rw [if_neg e,if_neg e]
   exact .cons q (qC.put h t)
inductive MO where
 |jD (n:Nat)|lst (ds:List Dt)|dct (ds:List (Key×Dt))|ins (C:Addr) (fs:List (Str×Dt))|yS (ds:List (List Key×Dt))
abbrev Mu:=Addr→Option MO
def aJ (μ:Mu) (a:Addr) (o:MO):Mu:=fun b=>if b=a then some o else μ b
def iD (μ:Mu) (a:Addr):Mu:=fun b=>if b=a then none else μ b
theorem aq {μ:Mu} {a:Addr} {o:MO}:aJ μ a o a=some o:=by unfold aJ;rw [if_pos rfl]
theorem aX {μ:Mu} {a b:Addr} {o:MO} (h:b≠a):aJ μ a o b=μ b:=by unfold aJ;rw [if_neg h]
theorem aO {μ:Mu} {a:Addr} {o u:MO}:aJ (aJ μ a o) a u=aJ μ a u:=by
 funext b
 unfold aJ
 split <;> rfl
def BB (K:Frag) (G H:Hp) (a:Addr):MO→Prop
 |.jD n=>∃ (c:Addr) (ns:List Int) (b g:Int),H a=some (.lst [.ref c,.int b,.int g])∧G c=some (.lst (ns.map V.int))∧0≤b∧b≤n∧0≤g∧Sz 1048600 g∧(∀ z∈ns,Sz 1048576 z)∧ns.length≤63
 |.lst ds=>∃ vs,H a=some (.lst vs)∧a≠sysModules∧dh K G vs ds
 |.dct ds=>∃ kvs,H a=some (.dK kvs)∧gW K G kvs ds
 |.ins C ds=>∃ dx fs,H a=some (.ins C dx fs)∧qC K G fs ds
 |.yS ds=>∃ kvs,H a=some (.dT kvs)∧DV K G kvs ds
structure Pt where
 G:Hp
 H:Hp
 μ:Mu
variable [MK]
structure Sat (K:Frag) (P:Pt):Prop where
 sub:SF P.G P.H
 mu:∀ a o,P.μ a=some o→P.G a=none∧BB K P.G P.H a o
 sys:∃ u,P.H sysModules=some u∧kM u=false
 tabs:LamX.Tabs (Kw K) P.H
 gt:∀ a u,P.G a=some u→kM u=false
structure Step (K:Frag) (P Q:Pt):Prop where
 sf:SF P.G Q.G
 sat:Sat K Q
 fr:∀ a o,P.H a=some o→Ou o=false→P.G a=none→P.μ a=none→Q.H a=some o∧Q.G a=none∧Q.μ a=none
 lk:∀ a o u,P.H a=some (.frz o u)→Q.H a=some (.frz o u)
section
variable {K:Frag} {P Q R:Pt} {G G' H H':Hp} {μ:Mu} {a b:Addr} {o:MO} {u:HO}
theorem Step.refl (s:Sat K P):Step K P P:=⟨.refl,s,fun _ _ h _ g m=>⟨h,g,m⟩,fun _ _ _ h=>h⟩
theorem Step.trans (s:Step K P Q) (t:Step K Q R):Step K P R:=⟨s.sf.trans t.sf,t.sat,fun a o h n g m=>by
 obtain ⟨h1,g1,m1⟩:=s.fr a o h n g m
 exact t.fr a o h1 n g1 m1,fun a o u h=>t.lk a o u (s.lk a o u h)⟩
theorem BB.loose (h:BB K G H a o) (x:Obj) (u:HO):H a≠some (.frz x u):=by
 intro e
 cases o with
 |jD n=>obtain ⟨c,ns,b,g,h,_⟩:=h;rw [e] at h;cases h
 |lst ds=>obtain ⟨vs,h,_⟩:=h;rw [e] at h;cases h
 |dct ds=>obtain ⟨vs,h,_⟩:=h;rw [e] at h;cases h
 |ins C ds=>obtain ⟨dx,vs,h,_⟩:=h;rw [e] at h;cases h
 |yS ds=>obtain ⟨vs,h,_⟩:=h;rw [e] at h;cases h
theorem BB.plain (h:BB K G H a o):∀ u,H a=some u→wc u=true:=by
 intro u e
 cases o with
 |jD n=>obtain ⟨c,ns,b,g,h,_⟩:=h;rw [h] at e;cases e;rfl
 |lst ds=>obtain ⟨vs,h,_⟩:=h;rw [h] at e;cases e;rfl
 |dct ds=>obtain ⟨vs,h,_⟩:=h;rw [h] at e;cases e;rfl
 |ins C ds=>obtain ⟨dx,vs,h,_⟩:=h;rw [h] at e;cases e;rfl
 |yS ds=>obtain ⟨vs,h,_⟩:=h;rw [h] at e;cases e;rfl
theorem oB {v:HO} (h:∀ a u,G a=some u→kM u=false) (n:kM v=false):∀ b u,upd G a v b=some u→kM u=false:=by
 intro b u e
 by_cases z:b=a
 ·subst z
  rw [upd_same] at e
  cases e
  exact n
 ·rw [upd_ne z] at e
  exact h b u e
theorem BB.there (h:BB K G H a o):∃ u,H a=some u:=by
 cases o with
 |jD n=>obtain ⟨c,ns,b,g,h,_⟩:=h;exact ⟨_,h⟩
 |lst ds=>obtain ⟨vs,h,_⟩:=h;exact ⟨_,h⟩
 |dct ds=>obtain ⟨vs,h,_⟩:=h;exact ⟨_,h⟩
 |ins C ds=>obtain ⟨dx,vs,h,_⟩:=h;exact ⟨_,h⟩
 |yS ds=>obtain ⟨vs,h,_⟩:=h;exact ⟨_,h⟩
theorem BB.sf (s:SF G G') (h:BB K G H a o) (e:∀ u,H a=some u→H' a=some u):BB K G' H' a o:=by
 cases o with
 |jD n=>obtain ⟨c,ns,b,g,h,hc,r⟩:=h;exact ⟨c,ns,b,g,e _ h,s.fH hc rfl,r⟩
 |lst ds=>obtain ⟨vs,h,n,r⟩:=h;exact ⟨vs,e _ h,n,r.sf s⟩
 |dct ds=>obtain ⟨vs,h,r⟩:=h;exact ⟨vs,e _ h,r.sf s⟩
 |ins C ds=>obtain ⟨dx,vs,h,r⟩:=h;exact ⟨dx,vs,e _ h,r.sf s⟩
 |yS ds=>obtain ⟨vs,h,r⟩:=h;exact ⟨vs,e _ h,DV.sf s r⟩
theorem Sat.none (s:Sat K P) (h:P.H a=none):P.G a=none∧P.μ a=none:=by
 refine ⟨s.sub.free h,?_⟩
 cases e:P.μ a with
 |none=>rfl
 |some o=>
  obtain ⟨u,hu⟩:=(s.mu a o e).2.there
  rw [h] at hu
  cases hu
theorem Sat.ne (s:Sat K P) (h:P.H a=Option.none):a≠sysModules:=by
 rintro rfl
 obtain ⟨u,e,_⟩:=s.sys
 rw [h] at e
 cases e
theorem mC (s:∃ u,H sysModules=some u∧kM u=false) (hu:kM u=false):∃ v,upd H a u sysModules=some v∧kM v=false:=by
 by_cases e:sysModules=a
 ·exact ⟨u,by rw [e,upd_same],hu⟩
 ·rw [upd_ne e]
  exact s
theorem Step.new (s:Sat K P) (h:P.H a=none) (hu:kM u=false:=by rfl):Step K P ⟨upd P.G a u,upd P.H a u,P.μ⟩:=by
 obtain ⟨g,m⟩:=s.none h
 refine ⟨.upd g,⟨s.sub.I7,fun b o e=>?_,mC s.sys hu,j4 s.tabs (fun v e=>by rw [h] at e;cases e),oB s.gt hu⟩,fun b o e1 _ e2 e3=>?_,fun b o v e=>by show upd P.H a u b=_;rw [upd_ne (fun z=>by rw [z,h] at e;cases e)];exact e⟩
 ·have n:b≠a:=fun z=>by rw [z] at e;rw [show P.μ a=some o from e] at m;cases m
  obtain ⟨h1,h2⟩:=s.mu b o e
  exact ⟨by show upd P.G a u b=_;rw [upd_ne n];exact h1,h2.sf (.upd g) fun v q=>by show upd P.H a u b=_;rw [upd_ne n];exact q⟩
 ·have n:b≠a:=fun z=>by rw [z,h] at e1;cases e1
  exact ⟨by show upd P.H a u b=_;rw [upd_ne n];exact e1,by show upd P.G a u b=_;rw [upd_ne n];exact e2,e3⟩
theorem Step.put (s:Sat K P) (hg:P.G a=none) (h:P.H a=none∨P.μ a≠none) (ok:BB K P.G (upd P.H a u) a o):Step K P ⟨P.G,upd P.H a u,aJ P.μ a o⟩:=by
 have nl:∀ b x v,P.H b=some (.frz x v)→b≠a:=fun b x v e z=>by
  subst z
  rcases h with h |h
  ·rw [h] at e;cases e
  ·cases q:P.μ b with
   |none=>exact h q
   |some m=>exact (s.mu b m q).2.loose x v e
 have np:∀ u,P.H a=some u→wc u=true:=by
  intro v e
  rcases h with h |h
  ·rw [h] at e;cases e
  ·cases q:P.μ a with
   |none=>exact (h q).elim
   |some m=>exact (s.mu a m q).2.plain v e
 refine ⟨.refl,⟨s.sub.off hg,fun b o' e=>?_,mC s.sys (FE (ok.plain u upd_same)),j4 s.tabs np,s.gt⟩,fun b o' e1 _ e2 e3=>?_,fun b x v e=>by show upd P.H a u b=_;rw [upd_ne (nl b x v e)];exact e⟩
 ·by_cases n:b=a
  ·subst n
   have e':aJ P.μ b o b=some o':=e
   rw [aq] at e'
   cases e'
   exact ⟨hg,ok⟩
  ·have e':aJ P.μ a o b=some o':=e
   rw [aX n] at e'
   obtain ⟨h1,h2⟩:=s.mu b o' e'
   exact ⟨h1,h2.sf .refl fun v q=>by show upd P.H a u b=_;rw [upd_ne n];exact q⟩
 ·have n:b≠a:=fun z=>by
   rcases h with h |h
   ·rw [z,h] at e1;cases e1
   ·rw [z] at e3;exact h e3
  exact ⟨by show upd P.H a u b=_;rw [upd_ne n];exact e1,e2,by show aJ P.μ a o b=_;rw [aX n];exact e3⟩
theorem Step.hid (s:Sat K P) (hg:P.G a=Option.none) (hm:P.μ a=Option.none) (hh:∀ u,P.H a=some u→wc u=true) (hu:kM u=false:=by rfl):Sat K ⟨P.G,upd P.H a u,P.μ⟩:=by
 refine ⟨s.sub.off hg,fun b o' e=>?_,mC s.sys hu,j4 s.tabs hh,s.gt⟩
 have n:b≠a:=fun z=>by rw [z] at e;rw [show P.μ a=some o' from e] at hm;cases hm
 obtain ⟨h1,h2⟩:=s.mu b o' e
 exact ⟨h1,h2.sf .refl fun v q=>by show upd P.H a u b=_;rw [upd_ne n];exact q⟩
theorem Step.fix (s:Sat K P) (hm:P.μ a=some o) (h:P.H a=some u):Step K P ⟨upd P.G a u,P.H,iD P.μ a⟩:=by
 obtain ⟨g,mo⟩:=s.mu a o hm
 refine ⟨.upd g,⟨fun b v e=>?_,fun b o' e=>?_,s.sys,s.tabs,oB s.gt (FE (mo.plain _ h))⟩,fun b o' e1 _ e2 e3=>?_,fun b x v e=>e⟩
 ·by_cases n:b=a
  ·subst n
   have e':upd P.G b u b=some v:=e
   rw [upd_same] at e'
   cases e'
   exact ⟨_,h,rfl⟩
  ·have e':upd P.G a u b=some v:=e
   rw [upd_ne n] at e'
   exact s.sub b v e'
 ·have e':(if b=a then Option.none else P.μ b)=some o':=e
  by_cases n:b=a
  ·rw [if_pos n] at e';cases e'
  ·rw [if_neg n] at e'
   obtain ⟨h1,h2⟩:=s.mu b o' e'
   exact ⟨by show upd P.G a u b=_;rw [upd_ne n];exact h1,h2.sf (.upd g) fun v q=>q⟩
 ·have n:b≠a:=fun z=>by rw [z,hm] at e3;cases e3
  exact ⟨e1,by show upd P.G a u b=_;rw [upd_ne n];exact e2,by show (if b=a then Option.none else P.μ b)=_;rw [if_neg n];exact e3⟩
end
abbrev Ev:=List (Option Dt)
def Env (K:Frag) (G:Hp) (σ:L2.St) (ρ:Ev):Prop:=ρ.length=σ.length∧∀ (i:Nat) (d:Dt),ρ[i]? = some (some d)→∃ v:V,σ[i]? = some (some v)∧Rp K G v d
section
variable {K:Frag} {G G':Hp} {σ:L2.St} {ρ:Ev} {i:Nat} {v:V} {d:Dt}
theorem Env.sf (s:SF G G') (h:Env K G σ ρ):Env K G' σ ρ:=⟨h.1,fun i d e=>by
 obtain ⟨v,e1,r⟩:=h.2 i d e
 exact ⟨v,e1,r.sf s⟩⟩
theorem Env.set (h:Env K G σ ρ) (r:Rp K G v d):Env K G (σ.set i (some v)) (ρ.set i (some d)):=by
 refine ⟨by simp [h.1],fun j e q=>?_⟩
 by_cases hj:j=i
 ·subst hj
  rw [List.getElem?_set] at q ⊢
  rw [if_pos rfl] at q ⊢
  by_cases hl:j<ρ.length
  ·rw [if_pos hl] at q
   cases q
   rw [if_pos (by rw [← h.1];exact hl)]
   exact ⟨_,rfl,r⟩
  ·rw [if_neg hl] at q
   cases q
 ·rw [List.getElem?_set_ne (fun z=>hj z.symm)] at q ⊢
  exact h.2 j e q
theorem Env.del (h:Env K G σ ρ) (o:Option V):Env K G (σ.set i o) (ρ.set i none):=by
 refine ⟨by simp [h.1],fun j e q=>?_⟩
 by_cases hj:j=i
 ·subst hj
  rw [List.getElem?_set] at q
  rw [if_pos rfl] at q
  split at q <;> cases q
 ·rw [List.getElem?_set_ne (fun z=>hj z.symm)] at q ⊢
  exact h.2 j e q
end
def j5 (ρ:Ev):List Nat→Ev
 |[]=>ρ
 |i::r=>(j5 ρ r).set i none
theorem Env.wipe {K:Frag} {G:Hp}:∀ (vs:List Nat) {σ:L2.St} {ρ:Ev},Env K G σ ρ→Env K G (L2.wipe σ vs) (j5 ρ vs)
 |[],_,_,h=>h
 |_::r,_,_,h=>(Env.wipe r h).del none
abbrev DQ:=Dt→Mu→Prop
abbrev DE:=Ev→Mu→DQ→Prop
abbrev DA:=Ev→Mu→(List Dt→Mu→Prop)→Prop
abbrev DT:=Ev→Mu→(Bool→Mu→Prop)→Prop
abbrev XQ:=Addr→List (Str×Dt)→Ev→Mu→Prop
structure gX where
 nx:Ev→Mu→Prop
 rt:DQ
 bk:Ev→Mu→Prop
 ct:Ev→Mu→Prop
abbrev DS:=gX→Ev→Mu→Prop
section
variable (K:Frag) (B:Pt)
def cG (te:TE) (t:DE):Prop:=∀ (σ:L2.St) (P:Pt) (ρ:Ev) (Q:VK) (q:DQ),Step K B P→Env K P.G σ ρ→t ρ P.μ q→(∀ v d P',Step K P P'→Rp K P'.G v d→q d P'.μ→Q v P'.H)→te σ P.H Q
def we (te:TA) (t:DA):Prop:=∀ (σ:L2.St) (P:Pt) (ρ:Ev) (Q:List V→Hp→Prop) (q:List Dt→Mu→Prop),Step K B P→Env K P.G σ ρ→t ρ P.μ q→(∀ v d P',Step K P P'→dh K P'.G v d→q d P'.μ→Q v P'.H)→te σ P.H Q
def zX (te:TT) (t:DT):Prop:=∀ (σ:L2.St) (P:Pt) (ρ:Ev) (Q:Bool→Hp→Prop) (q:Bool→Mu→Prop),Step K B P→Env K P.G σ ρ→t ρ P.μ q→(∀ b P',Step K P P'→q b P'.μ→Q b P'.H)→te σ P.H Q
def Rj (G:Hp) (dd:Option Addr) (fs:List (Str×Dt)):Prop:=match dd with
 |none=>fs=[]
 |some d=>∃ vs,G d=some (.xd vs)∧qC K G vs fs
def DW (W:WX) (w:XQ):Prop:=∀ (σ:L2.St) (P:Pt) (ρ:Ev) (C:Addr) (dd:Option Addr) (fs:List (Str×Dt)),Step K B P→Env K P.G σ ρ→Rj K P.G dd fs→w C fs ρ P.μ→W (.ref C) dd σ P.H
structure Ow (P:Pt) (D:Ends) (d:gX):Prop where
 nx:∀ σ P' ρ,Step K P P'→Env K P'.G σ ρ→d.nx ρ P'.μ→D.nx σ P'.H
 rt:∀ v x P',Step K P P'→Rp K P'.G v x→d.rt x P'.μ→D.rt v P'.H
 bk:∀ σ P' ρ,Step K P P'→Env K P'.G σ ρ→d.bk ρ P'.μ→D.bk σ P'.H
 ct:∀ σ P' ρ,Step K P P'→Env K P'.G σ ρ→d.ct ρ P'.μ→D.ct σ P'.H
def nM (ts:TS) (t:DS):Prop:=∀ (σ:L2.St) (P:Pt) (ρ:Ev) (D:Ends) (d:gX),Step K B P→Env K P.G σ ρ→t d ρ P.μ→Ow K P D d→ts D σ P.H
abbrev DG:=Dt→Ev→Mu→(Ev→Mu→Prop)→Prop
abbrev Ia:=List Dt→Ev→Mu→(Ev→Mu→Prop)→Prop
def NN (g:TG) (t:DG):Prop:=∀ (v:V) (x:Dt) (σ:L2.St) (P:Pt) (ρ:Ev) (Q:L2.St→Hp→Prop) (q:Ev→Mu→Prop),Step K B P→Rp K P.G v x→Env K P.G σ ρ→t x ρ P.μ q→(∀ σ' P' ρ',Step K P P'→Env K P'.G σ' ρ'→q ρ' P'.μ→Q σ' P'.H)→g v σ P.H Q
def I8 (g:TGs) (t:Ia):Prop:=∀ (v:List V) (x:List Dt) (σ:L2.St) (P:Pt) (ρ:Ev) (Q:L2.St→Hp→Prop) (q:Ev→Mu→Prop),Step K B P→dh K P.G v x→Env K P.G σ ρ→t x ρ P.μ q→(∀ σ' P' ρ',Step K P P'→Env K P'.G σ' ρ'→q ρ' P'.μ→Q σ' P'.H)→g v σ P.H Q
end
theorem Ow.mono {K:Frag} {P P':Pt} {D:Ends} {d:gX} (h:Ow K P D d) (s:Step K P P'):Ow K P' D d:=
 ⟨fun σ P2 ρ t=>h.nx σ P2 ρ (s.trans t),fun v x P2 t=>h.rt v x P2 (s.trans t),fun σ P2 ρ t=>h.bk σ P2 ρ (s.trans t),fun σ P2 ρ t=>h.ct σ P2 ρ (s.trans t)⟩
abbrev iP:=List Dt→Mu→DQ→(Addr→List (Str×Dt)→Mu→Prop)→Prop
def aV (K:Frag) (sp:iP):Sp:=fun vs H Q E=>∃ (P:Pt) (ds:List Dt) (q:DQ) (x:Addr→List (Str×Dt)→Mu→Prop),P.H=H∧Sat K P∧dh K P.G vs ds∧sp ds P.μ q x∧
 (∀ v d P',Step K P P'→Rp K P'.G v d→q d P'.μ→Q v P'.H)∧∀ C fs dd P',Step K P P'→Rj K P'.G dd fs→x C fs P'.μ→E (.ref C) dd P'.H
def uu (N:List Str) (ds:List Dt):Ev:=(ds.map some)++List.replicate (N.length - ds.length) none
end HS
namespace HS
open PySem PySem.Spec PyProof.Rows L2
section
variable [MK] {K:Frag} {B:Pt}
def kX (i:Nat):DE:=fun ρ μ q=>∃ d,ρ[i]? = some (some d)∧q d μ
theorem ah {i:Nat}:cG K B (tVar i) (kX i):=fun σ P ρ Q q hB hE ⟨d,h1,h2⟩ k=>by
 obtain ⟨v,e,r⟩:=hE.2 i d h1
 exact ⟨v,e,k v d P (.refl hB.sat) r h2⟩
def dC (d:Dt):DE:=fun _ μ q=>q d μ
theorem FG {v:V} {d:Dt} (h:∀ G,Rp K G v d):cG K B (tC v) (dC d):=fun σ P ρ Q q hB hE h2 k=>k v d P (.refl hB.sat) (h _) h2
theorem av {i:Int}:cG K B (tC (.int i)) (dC (.int i)):=FG fun _=>.int i
theorem aS {x:Str}:cG K B (tC (.str x)) (dC (.str x)):=FG fun _=>.str x
theorem j6 {b:Bool}:cG K B (tC (.bl b)) (dC (.bl b)):=FG fun _=>.bl b
theorem qp:cG K B (tC .non) (dC .non):=FG fun _=>.non
theorem j7 {v:V}:cG K B (tC v) (dC (.raw v)):=FG fun _=>.raw v
def fk:DA:=fun _ μ q=>q [] μ
def bD (t:DE) (u:DA):DA:=fun ρ μ q=>t ρ μ fun x μ1=>u ρ μ1 fun xs μ2=>q (x::xs) μ2
theorem ai:we K B tNil fk:=fun σ P ρ Q q hB hE h k=>k [] [] P (.refl hB.sat) .nil h
theorem af {te:TE} {ta:TA} {t:DE} {u:DA} (a:cG K B te t) (b:we K B ta u):we K B (tCons te ta) (bD t u):=fun σ P ρ Q q hB hE h k=>
 a σ P ρ _ _ hB hE h fun v d P1 s1 r1 h1=>b σ P1 ρ _ _ (hB.trans s1) (hE.sf s1.sf) h1 fun vs ds P2 s2 r2 h2=>k (v::vs) (d::ds) P2 (s1.trans s2) (.cons (r1.sf s2.sf) r2) h2
def AG:Dt→Option (List Dt)
 |.lst ds=>some ds
 |.tup ds=>some ds
 |_=>none
theorem FH {G:Hp} {v:V} {d:Dt} {ds:List Dt} (r:Rp K G v d) (h:AG d=some ds):∃ a xs,v=.ref a∧dh K G xs ds∧((SqL K G a xs∧d=.lst ds)∨(SqT K G a xs∧d=.tup ds)):=by
 cases r with
 |lst hs n t=>cases h;exact ⟨_,_,rfl,t,.inl ⟨.of hs,rfl⟩⟩
 |tup hs t=>cases h;exact ⟨_,_,rfl,t,.inr ⟨hs,rfl⟩⟩
 |_=>cases h
def FI (t:DE) (u:DA):DA:=fun ρ μ q=>t ρ μ fun x μ1=>∃ xs,AG x=some xs∧u ρ μ1 fun ys μ2=>q (xs++ys) μ2
theorem BC {te:TE} {ta:TA} {t:DE} {u:DA} (a:cG K B te t) (b:we K B ta u):we K B (StX.tStar K te ta) (FI t u):=fun σ P ρ Q q hB hE h k=>
 a σ P ρ _ _ hB hE h fun v d P1 s1 r1 ⟨xs,hx,h1⟩=>by
  obtain ⟨p,vs,rfl,t,hs⟩:=FH r1 hx
  refine ⟨p,vs,rfl,hs.elim (fun h=>.inr (s1.sat.sub.seq h.1)) (fun h=>.inl (s1.sat.sub.tup h.1)),?_⟩
  exact b σ P1 ρ _ _ (hB.trans s1) (hE.sf s1.sf) h1 fun ws ds P2 s2 r2 h2=>k _ _ P2 (s1.trans s2) ((t.sf s2.sf).append r2) h2
def Mj (t:DA):DE:=fun ρ μ q=>t ρ μ fun ds μ1=>ds.length≤sizeLine∧q (.tup ds) μ1
theorem fq {ta:TA} {t:DA} (a:we K B ta t):cG K B (tTup ta) (Mj t):=fun σ P ρ Q q hB hE h k=>
 a σ P ρ _ _ hB hE h fun vs ds P1 s1 r1 ⟨hl,h1⟩=>⟨by rw [r1.length];exact hl,fun p hp=>by
  have s2:Step K P1 ⟨upd P1.G p (.tup vs),upd P1.H p (.tup vs),P1.μ⟩:=.new s1.sat hp
  exact k _ _ _ (s1.trans s2) (.tup (.inl (.inl upd_same)) (r1.sf s2.sf)) h1⟩
def Ml (t:DA):DE:=fun ρ μ q=>t ρ μ fun ds μ1=>ds.length≤sizeLine∧q (.lst ds) μ1
theorem eO {ta:TA} {t:DA} (a:we K B ta t):cG K B (KJ ta) (Ml t):=fun σ P ρ Q q hB hE h k=>
 a σ P ρ _ _ hB hE h fun vs ds P1 s1 r1 ⟨hl,h1⟩=>⟨by rw [r1.length];exact hl,fun p hp hps=>by
  have s2:Step K P1 ⟨upd P1.G p (.lst vs),upd P1.H p (.lst vs),P1.μ⟩:=.new s1.sat hp
  exact k _ _ _ (s1.trans s2) (.lst upd_same hps (r1.sf s2.sf)) h1⟩
def KU:DE:=fun _ μ q=>q (.dct []) μ
theorem xC:cG K B tDNewK KU:=fun σ P ρ Q q hB hE h k p hp=>by
 have s2:Step K P ⟨upd P.G p (.dK []),upd P.H p (.dK []),P.μ⟩:=.new hB.sat hp
 exact k _ _ _ s2 (.dct upd_same rfl .nil) h
def FJ:DE:=fun _ μ q=>∀ p,μ p=none→q (.raw (.ref p)) (aJ μ p (.dct []))
theorem FL:cG K B tDNewK FJ:=fun σ P ρ Q q hB hE h k p hp=>by
 obtain ⟨g,m⟩:=hB.sat.none hp
 have s2:Step K P ⟨P.G,upd P.H p (.dK []),aJ P.μ p (.dct [])⟩:=.put hB.sat g (.inl hp) ⟨[],upd_same,.nil⟩
 exact k _ _ _ s2 (.raw _) (h p m)
theorem Step.lay {P:Pt} {a:Addr} {u:HO} (s:Sat K P) (h:P.H a=none) (hu:kM u=false:=by rfl):Step K P ⟨P.G,upd P.H a u,P.μ⟩:=by
 obtain ⟨g,m⟩:=s.none h
 refine ⟨.refl,Step.hid s g m (fun v e=>by rw [h] at e;cases e) hu,fun b o e1 _ e2 e3=>⟨?_,e2,e3⟩,fun b x v e=>by show upd P.H a u b=_;rw [upd_ne (fun z=>by rw [z,h] at e;cases e)];exact e⟩
 have n:b≠a:=fun z=>by rw [z,h] at e1;cases e1
 show upd P.H a u b=_
 rw [upd_ne n]
 exact e1
abbrev DR:=Dt→Dt→Mu→DQ→Prop
def xD (K:Frag) (B:Pt) (r:R2) (t:DR):Prop:=∀ (x y:V) (a b:Dt) (P:Pt) (Q:VK) (q:DQ),Step K B P→Rp K P.G x a→Rp K P.G y b→t a b P.μ q→(∀ v d P',Step K P P'→Rp K P'.G v d→q d P'.μ→Q v P'.H)→r x y P.H Q
def KW (r:DR) (t u:DE):DE:=fun ρ μ q=>t ρ μ fun x μ1=>u ρ μ1 fun y μ2=>r x y μ2 q
theorem bN {r:R2} {d:DR} {ta tb:TE} {t u:DE} (hr:xD K B r d) (a:cG K B ta t) (b:cG K B tb u):cG K B (tOp r ta tb) (KW d t u):=fun σ P ρ Q q hB hE h k=>
 a σ P ρ _ _ hB hE h fun v x P1 s1 r1 h1=>b σ P1 ρ _ _ (hB.trans s1) (hE.sf s1.sf) h1 fun w y P2 s2 r2 h2=>
  hr v w x y P2 Q q (hB.trans (s1.trans s2)) (r1.sf s2.sf) r2 h2 fun v' d' P3 s3 r3 h3=>k v' d' P3 (s1.trans (s2.trans s3)) r3 h3
theorem fX {G:Hp} {v:V} {i:Int} (r:Rp K G v (.int i)):v=.int i:=by cases r;rfl
theorem uw {G:Hp} {v:V} {i:Str} (r:Rp K G v (.str i)):v=.str i:=by cases r;rfl
theorem ny {G:Hp} {v:V} {i:Bool} (r:Rp K G v (.bl i)):v=.bl i:=by cases r;rfl
theorem kY {G:Hp} {v w:V} (r:Rp K G v (.raw w)):v=w:=by cases r;rfl
def I9 (g:Int→Int→Dt):DR:=fun x y μ q=>∃ i j,x=.int i∧y=.int j∧q (g i j) μ
def dI (C:Int→Int→Prop) (g:Int→Int→Dt):DR:=fun x y μ q=>∃ i j,x=.int i∧y=.int j∧C i j∧q (g i j) μ
theorem ux {f:Int→Int→V} {g:Int→Int→Dt} (h:∀ G i j,Rp K G (f i j) (g i j)):xD K B (rI0 f) (I9 g):=fun x y a b P Q q hB r1 r2 ⟨i,j,e1,e2,h3⟩ k=>by
 subst e1 e2
 obtain rfl:=fX r1
 obtain rfl:=fX r2
 exact ⟨i,j,rfl,rfl,k _ _ P (.refl hB.sat) (h _ i j) h3⟩
theorem BD {C:Int→Int→Prop} {f:Int→Int→V} {g:Int→Int→Dt} (h:∀ G i j,Rp K G (f i j) (g i j)):xD K B (rI C f) (dI C g):=fun x y a b P Q q hB r1 r2 ⟨i,j,e1,e2,hc,h3⟩ k=>by
 subst e1 e2
 obtain rfl:=fX r1
 obtain rfl:=fX r2
 exact ⟨i,j,rfl,rfl,hc,k _ _ P (.refl hB.sat) (h _ i j) h3⟩
theorem rV:xD K B (rI0 fun i j=>.int (i+j)) (I9 fun i j=>.int (i+j)):=ux fun _ _ _=>.int _
theorem rW:xD K B (rI0 fun i j=>.int (i - j)) (I9 fun i j=>.int (i - j)):=ux fun _ _ _=>.int _
theorem d9:xD K B (rI jZ fun i j=>.int (i*j)) (dI jZ fun i j=>.int (i*j)):=BD fun _ _ _=>.int _
theorem uz:xD K B (rI Bs fun i j=>.int (i.fdiv j)) (dI Bs fun i j=>.int (i.fdiv j)):=BD fun _ _ _=>.int _
theorem CY:xD K B (rI (fun _ j=>j≠0) fun i j=>.int (i.fmod j)) (dI (fun _ j=>j≠0) fun i j=>.int (i.fmod j)):=BD fun _ _ _=>.int _
theorem rX:xD K B (rI v9 fun i j=>.int (i ^ j.toNat)) (dI v9 fun i j=>.int (i ^ j.toNat)):=BD fun _ _ _=>.int _
theorem FN:xD K B (rI0 fun i j=>.bl (decide (i<j))) (I9 fun i j=>.bl (decide (i<j))):=ux fun _ _ _=>.bl _
theorem qN:xD K B (rI0 fun i j=>.bl (decide (i≤j))) (I9 fun i j=>.bl (decide (i≤j))):=ux fun _ _ _=>.bl _
theorem yT:xD K B (rI0 fun i j=>.bl (decide (j<i))) (I9 fun i j=>.bl (decide (j<i))):=ux fun _ _ _=>.bl _
def Ox:Dt→Dt→Option Bool
 |.non,.non=>some true
 |.int i,.int j=>some (decide (i=j))
 |.bl i,.bl j=>some (decide (i=j))
 |.str i,.str j=>some (decide (i=j))
 |.non,.int _=>some false
 |.int _,.non=>some false
 |.non,.bl _=>some false
 |.bl _,.non=>some false
 |.non,.str _=>some false
 |.str _,.non=>some false
 |.int _,.str _=>some false
 |.str _,.int _=>some false
 |.bl _,.str _=>some false
 |.str _,.bl _=>some false
 |_,_=>none
theorem FO {G:Hp} {v w:V} {x y:Dt} {c:Bool} (r1:Rp K G v x) (r2:Rp K G w y) (h:Ox x y=some c):scal v w=true∧decide (v=w)=c:=by
 cases r1 <;> cases r2 <;> cases h <;> refine ⟨rfl,?_⟩ <;> simp
structure Oz (x y:Dt) (μ:Mu) (q:DQ):Prop where
 ex:∃ c,Ox x y=some c∧q (.bl c) μ
structure Ja (x y:Dt) (μ:Mu) (q:DQ):Prop where
 ex:∃ c,Ox x y=some c∧q (.bl (!c)) μ
theorem CZ:xD K B Fl Oz:=fun x y a b P Q q hB r1 r2 ⟨⟨c,e,h3⟩⟩ k=>by
 obtain ⟨e1,e2⟩:=FO r1 r2 e
 exact eq_mk e1 (by rw [e2];exact k _ _ P (.refl hB.sat) (.bl _) h3)
theorem iE:xD K B Fo Ja:=fun x y a b P Q q hB r1 r2 ⟨⟨c,e,h3⟩⟩ k=>by
 obtain ⟨e1,e2⟩:=FO r1 r2 e
 exact Ol e1 (by rw [e2];exact k _ _ P (.refl hB.sat) (.bl _) h3)
def OA (neg:Bool):DR:=fun x y μ q=>∃ (c:Nat) (z:Str),x=.str ⟨#[c]⟩∧y=.str z∧q (.bl (if neg then !decide (c∈z.cps.toList) else decide (c∈z.cps.toList))) μ
theorem vE:xD K B (fun x y H Q=>∃ (c:Nat) (z:Str),x=.str ⟨#[c]⟩∧y=.str z∧Q (.bl (decide (c∈z.cps.toList))) H) (OA false):=fun x y a b P Q q hB r1 r2 ⟨c,z,e1,e2,h3⟩ k=>by
 subst e1 e2
 exact ⟨c,z,uw r1,uw r2,k _ _ P (.refl hB.sat) (.bl _) h3⟩
mutual
inductive Py:Dt→PyData→Prop
 |non:Py .non .none
 |bl (b:Bool):Py (.bl b) (.bool b)
 |int (i:Int):Py (.int i) (.int i)
 |str (x:Str):Py (.str x) (.str x)
 |lst {ds:List Dt} {ps:List PyData}:Mm ds ps→Py (.lst ds) (.list ps)
 |tup {ds:List Dt} {ps:List PyData}:Mm ds ps→Py (.tup ds) (.tuple ps)
 |dct {ds:List (Key×Dt)} {ps:List (PyData×PyData)}:OB ds ps→Py (.dct ds) (.dict ps)
inductive Mm:List Dt→List PyData→Prop
 |nil:Mm [] []
 |cons {d:Dt} {ds:List Dt} {p:PyData} {ps:List PyData}:Py d p→Mm ds ps→Mm (d::ds) (p::ps)
inductive OB:List (Key×Dt)→List (PyData×PyData)→Prop
 |nil:OB [] []
 |cons {k:Key} {d:Dt} {ds:List (Key×Dt)} {p:PyData} {ps:List (PyData×PyData)}:Py d p→OB ds ps→OB ((k,d)::ds) ((kD k,p)::ps)
end
theorem uA {H:Hp} {a:Addr} {o:HO} {kvs:List (Key×V)} (h:H a=some o) (e:ct o=.dK kvs):L2.Rd H a (.dK kvs):=by
 cases o with
 |frz x u=>
  cases u <;> first |(cases e;done)|skip
  cases e
  exact .inr ⟨x,h⟩
 |dK k=>cases e;exact .inl h
 |_=>cases e
mutual
theorem Rp.rd {G H:Hp} (s:SF G H):∀ {v:V} {d:Dt} {p:PyData},Rp K G v d→Py d p→Rd K H v p
 |_,_,_,.non,.non=>.non
 |_,_,_,.bl b,.bl _=>.bl b
 |_,_,_,.int b,.int _=>.int b
 |_,_,_,.str b,.str _=>.str b
 |_,_,_,.BA h n,q=>by cases q
 |_,_,_,.mix h t,q=>by cases q
 |_,_,_,.lst h n t,.lst q=>.lst (SqL.of (K:=K) (s.fH h rfl)) n (dh.rd s t q)
 |_,_,_,.tup h t _,.tup q=>.tup (s.tup h) (dh.rd s t q)
 |_,_,_,.dct h e t,.dct q=>by
  obtain ⟨o',h',e'⟩:=s _ _ h
  obtain ⟨ks,vs,ps,rfl,rfl,l1,l2,r⟩:=gW.rd s t q
  exact .dct (uA h' (e'.trans e)) l1 r
theorem dh.rd {G H:Hp} (s:SF G H):∀ {vs:List V} {ds:List Dt} {ps:List PyData},dh K G vs ds→Mm ds ps→KH K H vs ps
 |_,_,_,.nil,.nil=>.nil
 |_,_,_,.cons h t,.cons q r=>.cons (Rp.rd s h q) (dh.rd s t r)
theorem gW.rd {G H:Hp} (s:SF G H):∀ {kvs:List (Key×V)} {ds:List (Key×Dt)} {ps:List (PyData×PyData)},gW K G kvs ds→OB ds ps→
  ∃ (ks:List Key) (vs:List V) (es:List PyData),kvs=ks.zip vs∧ps=(ks.map kD).zip es∧ks.length=vs.length∧ks.length=es.length∧KH K H vs es
 |_,_,_,.nil,.nil=>⟨[],[],[],rfl,rfl,rfl,rfl,.nil⟩
 |_,_,_,.cons (f:=k) (v:=v) h t,.cons (p:=p) q r=>by
  obtain ⟨ks,vs,es,e1,e2,l1,l2,hr⟩:=gW.rd s t r
  exact ⟨k::ks,v::vs,p::es,by rw [e1];rfl,by rw [e2];rfl,by simp [l1],by simp [l2],.cons (Rp.rd s h q) hr⟩
end
mutual
theorem Rp.dp {G H:Hp} (s:SF G H):∀ {v:V} {d:Dt} {p:PyData},Rp K G v d→Py d p→p.canLay0=true→Dp K H v p
 |_,_,_,.non,.non,_=>.non
 |_,_,_,.bl b,.bl _,_=>.bl b
 |_,_,_,.int b,.int _,_=>.int b
 |_,_,_,.str b,.str _,_=>.str b
 |_,_,_,.BA h n,q,_=>by cases q
 |_,_,_,.mix h t,q,_=>by cases q
 |_,_,_,.lst h n t,.lst q,c=>.lst (SqL.of (K:=K) (s.fH h rfl)) (dh.dp s t q (by simpa [PyData.canLay0] using c))
 |_,_,_,.tup h t _,.tup q,c=>.tup (s.tup h) (dh.dp s t q (by simpa [PyData.canLay0] using c))
 |_,_,_,.dct h e t,.dct q,c=>nomatch c
theorem dh.dp {G H:Hp} (s:SF G H):∀ {vs:List V} {ds:List Dt} {ps:List PyData},dh K G vs ds→Mm ds ps→PyData.canLayAll0 ps=true→DpAll K H vs ps
 |_,_,_,.nil,.nil,_=>.nil
 |_,_,_,.cons h t,.cons (p:=p) (ps:=ps) q r,c=>by
  have c':p.canLay0=true∧PyData.canLayAll0 ps=true:=by simpa [PyData.canLayAll0] using c
  exact .cons (Rp.dp s h q c'.1) (dh.dp s t r c'.2)
end
def Rk:DR:=fun x y μ q=>∃ d e,Py x d∧Py y e∧SeqAt.shaped d=true∧SeqAt.shaped e=true∧q (.bl (PyData.eqv d e)) μ
theorem uB {d:PyData} (h:SeqAt.shaped d=true):d.canLay0=true:=by
 unfold SeqAt.shaped at h
 simp only [Bool.and_eq_true] at h
 exact h.1
theorem C0:xD K B (rEqD K) Rk:=fun x y a b P Q q hB r1 r2 ⟨d,e,p1,p2,s1,s2,h3⟩ k=>
 ⟨d,e,r1.dp hB.sat.sub p1 (uB s1),r2.dp hB.sat.sub p2 (uB s2),s1,s2,k _ _ P (.refl hB.sat) (.bl _) h3⟩
theorem Mn {G:Hp} {vs:List V} {ds:List Dt} {i:Int} {d:Dt} (r:dh K G vs ds) (h:atI ds i=some d):∃ v,atI vs i=some v∧Rp K G v d:=by
 unfold atI at h ⊢
 rw [r.length]
 cases e:ixN ds.length i with
 |none=>rw [e] at h;cases h
 |some j=>
  rw [e] at h
  exact r.get h
def OC:DR:=fun x y μ q=>∃ ds i d,x=.tup ds∧y=.int i∧atI ds i=some d∧q d μ
theorem o8:xD K B (rIxT K) OC:=fun x y a b P Q q hB r1 r2 ⟨ds,i,d,e1,e2,e,h3⟩ k=>by
 subst e1 e2
 obtain rfl:=fX r2
 cases r1 with
 |tup hs t=>
  obtain ⟨v,e1,r⟩:=Mn t e
  exact ⟨_,_,_,v,rfl,rfl,hB.sat.sub.tup hs,e1,k _ _ P (.refl hB.sat) r h3⟩
abbrev DO:=Ev→Mu→(Option Int→Mu→Prop)→Prop
def Qk (K:Frag) (B:Pt) (te:TO) (t:DO):Prop:=∀ (σ:L2.St) (P:Pt) (ρ:Ev) (Q:Option Int→Hp→Prop) (q:Option Int→Mu→Prop),Step K B P→Env K P.G σ ρ→t ρ P.μ q→(∀ v P',Step K P P'→q v P'.μ→Q v P'.H)→te σ P.H Q
def BE:DO:=fun _ μ q=>q none μ
def KY (t:DE):DO:=fun ρ μ q=>t ρ μ fun x μ1=>∃ i,x=.int i∧q (some i) μ1
theorem C1:Qk K B tNoPart BE:=fun σ P ρ Q q hB hE h k=>k none P (.refl hB.sat) h
theorem Jb {te:TE} {t:DE} (a:cG K B te t):Qk K B (tPart te) (KY t):=fun σ P ρ Q q hB hE h k=>
 a σ P ρ _ _ hB hE h fun v x P1 s1 r1 ⟨i,e,h1⟩=>by
  subst e
  exact ⟨i,fX r1,k (some i) P1 s1 h1⟩
def cutD (xs:List Dt) (lo hi:Option Int):List Dt:=(xs.drop (HT.sIx xs.length 0 lo)).take (HT.sIx xs.length xs.length hi - HT.sIx xs.length 0 lo)
theorem dh.cut {G:Hp} {vs:List V} {ds:List Dt} (r:dh K G vs ds) (lo hi:Option Int):dh K G (cutV vs lo hi) (cutD ds lo hi):=by
 unfold cutV cutD
 rw [r.length]
 exact (r.drop _).take _
abbrev Ql:=Dt→Option Int→Option Int→Mu→DQ→Prop
def OD (K:Frag) (B:Pt) (r:V→Option Int→Option Int→Hp→VK→Prop) (t:Ql):Prop:=∀ (x:V) (a:Dt) (lo hi:Option Int) (P:Pt) (Q:VK) (q:DQ),Step K B P→Rp K P.G x a→t a lo hi P.μ q→(∀ v d P',Step K P P'→Rp K P'.G v d→q d P'.μ→Q v P'.H)→r x lo hi P.H Q
def Tz (r:Ql) (t:DE) (l h:DO):DE:=fun ρ μ q=>t ρ μ fun x μ1=>l ρ μ1 fun lo μ2=>h ρ μ2 fun hi μ3=>r x lo hi μ3 q
theorem FP {r:V→Option Int→Option Int→Hp→VK→Prop} {d:Ql} {te:TE} {tl th:TO} {t:DE} {l h:DO} (hr:OD K B r d) (a:cG K B te t) (b:Qk K B tl l) (c:Qk K B th h):cG K B (tSl r te tl th) (Tz d t l h):=fun σ P ρ Q q hB hE hh k=>
 a σ P ρ _ _ hB hE hh fun v x P1 s1 r1 h1=>b σ P1 ρ _ _ (hB.trans s1) (hE.sf s1.sf) h1 fun lo P2 s2 h2=>c σ P2 ρ _ _ (hB.trans (s1.trans s2)) (hE.sf (s1.trans s2).sf) h2 fun hi P3 s3 h3=>
  hr v x lo hi P3 Q q (hB.trans (s1.trans (s2.trans s3))) (r1.sf (s2.trans s3).sf) h3 fun v' d' P4 s4 r4 h4=>k v' d' P4 (s1.trans (s2.trans (s3.trans s4))) r4 h4
def OE:Ql:=fun x lo hi μ q=>∃ ds,x=.lst ds∧q (.lst (cutD ds lo hi)) μ
theorem AH:OD K B (rSlL K) OE:=fun x a lo hi P Q q hB r1 ⟨ds,e,h3⟩ k=>by
 subst e
 cases r1 with
 |@lst _ xs _ hs n t=>
  refine ⟨_,_,rfl,hB.sat.sub.seq (.of hs),fun p hp=>?_⟩
  have s2:Step K P ⟨upd P.G p (.lst (cutV xs lo hi)),upd P.H p (.lst (cutV xs lo hi)),P.μ⟩:=.new hB.sat hp
  exact k _ _ _ s2 (.lst upd_same (hB.sat.ne hp) ((t.cut lo hi).sf s2.sf)) h3
end
end HS
namespace HS
open PySem PySem.Spec PyProof.Rows L2
section
variable [MK] {K:Frag} {B:Pt}
abbrev DU:=Dt→Mu→DQ→Prop
def Rl (K:Frag) (B:Pt) (r:V→Hp→VK→Prop) (t:DU):Prop:=∀ (x:V) (a:Dt) (P:Pt) (Q:VK) (q:DQ),Step K B P→Rp K P.G x a→t a P.μ q→(∀ v d P',Step K P P'→Rp K P'.G v d→q d P'.μ→Q v P'.H)→r x P.H Q
def OF (r:DU) (t:DE):DE:=fun ρ μ q=>t ρ μ fun x μ1=>r x μ1 q
theorem qO {r:V→Hp→VK→Prop} {d:DU} {te:TE} {t:DE} (hr:Rl K B r d) (a:cG K B te t):cG K B (tUn r te) (OF d t):=fun σ P ρ Q q hB hE h k=>
 a σ P ρ _ _ hB hE h fun v x P1 s1 r1 h1=>hr v x P1 Q q (hB.trans s1) r1 h1 fun v' d' P2 s2 r2 h2=>k v' d' P2 (s1.trans s2) r2 h2
def OG:DU:=fun x μ q=>∃ i,x=.int i∧q (.int (-i)) μ
theorem iF:Rl K B (rU fun i=>.int (-i)) OG:=fun x a P Q q hB r1 ⟨i,e,h⟩ k=>by
 subst e
 exact ⟨i,fX r1,k _ _ P (.refl hB.sat) (.int _) h⟩
def dB (t:DE):DT:=fun ρ μ q=>t ρ μ fun x μ1=>∃ c,x=.bl c∧q c μ1
theorem fW {te:TE} {t:DE} (a:cG K B te t):zX K B (tB te) (dB t):=fun σ P ρ Q q hB hE h k=>
 a σ P ρ _ _ hB hE h fun v x P1 s1 r1 ⟨c,e,h1⟩=>by
  subst e
  exact ⟨c,ny r1,k c P1 s1 h1⟩
theorem gY {te:TE} {t:DE} (a:cG K B te t):zX K B (tTest te) (dB t):=fun σ P ρ Q q hB hE h k=>
 a σ P ρ _ _ hB hE h fun v x P1 s1 r1 ⟨c,e,h1⟩=>by
  subst e
  exact ⟨c,ny r1,k c P1 s1 h1⟩
def isNone:Dt→Option Bool
 |.non=>some true
 |.raw _=>none
 |_=>some false
def Jc (neg:Bool) (t:DE):DE:=fun ρ μ q=>t ρ μ fun x μ1=>∃ c,isNone x=some c∧q (.bl (if neg then !c else c)) μ1
theorem FQ {G:Hp} {v:V} {x:Dt} {c:Bool} (r:Rp K G v x) (h:isNone x=some c):decide (v=.non)=c:=by
 cases r <;> cases h <;> rfl
theorem FT {te:TE} {t:DE} (a:cG K B te t):cG K B (tIsN te) (Jc false t):=fun σ P ρ Q q hB hE h k=>
 a σ P ρ _ _ hB hE h fun v x P1 s1 r1 ⟨c,e,h1⟩=>by
  show Q (.bl (decide (v=.non))) P1.H
  rw [FQ r1 e]
  exact k _ _ P1 s1 (.bl _) h1
theorem Jd {te:TE} {t:DE} (a:cG K B te t):cG K B (tNotN te) (Jc true t):=fun σ P ρ Q q hB hE h k=>
 a σ P ρ _ _ hB hE h fun v x P1 s1 r1 ⟨c,e,h1⟩=>by
  show Q (.bl (!decide (v=.non))) P1.H
  rw [FQ r1 e]
  exact k _ _ P1 s1 (.bl _) h1
def Rn (t u:DT):DT:=fun ρ μ q=>t ρ μ fun c μ1=>if c=true then q true μ1 else u ρ μ1 q
def Mp (t:DT):DT:=fun ρ μ q=>t ρ μ fun c μ1=>q (!c) μ1
theorem BF {ta tb:TT} {t u:DT} (a:zX K B ta t) (b:zX K B tb u):zX K B (tOr ta tb) (Rn t u):=fun σ P ρ Q q hB hE h k=>
 a σ P ρ _ _ hB hE h fun c P1 s1 h1=>by
  cases c with
  |false=>exact b σ P1 ρ Q q (hB.trans s1) (hE.sf s1.sf) h1 fun b' P2 s2 h2=>k b' P2 (s1.trans s2) h2
  |true=>exact k _ P1 s1 h1
theorem fu {ta:TT} {t:DT} (a:zX K B ta t):zX K B (tNot ta) (Mp t):=fun σ P ρ Q q hB hE h k=>a σ P ρ _ _ hB hE h fun c P1 s1 h1=>k _ P1 s1 h1
def OH (t u:DE):DE:=fun ρ μ q=>t ρ μ fun x μ1=>∃ c,x=.bl c∧if c=true then u ρ μ1 q else q (.bl false) μ1
def Ro (t u:DE):DE:=fun ρ μ q=>t ρ μ fun x μ1=>∃ c,x=.bl c∧if c=true then q (.bl true) μ1 else u ρ μ1 q
def OI (t:DE):DE:=fun ρ μ q=>t ρ μ fun x μ1=>∃ c,x=.bl c∧q (.bl (!c)) μ1
theorem xE {ta tb:TE} {t u:DE} (a:cG K B ta t) (b:cG K B tb u):cG K B (tAndV ta tb) (OH t u):=fun σ P ρ Q q hB hE h k=>
 a σ P ρ _ _ hB hE h fun v x P1 s1 r1 ⟨c,e,h1⟩=>by
  subst e
  refine ⟨c,ny r1,?_⟩
  cases c with
  |true=>exact b σ P1 ρ Q q (hB.trans s1) (hE.sf s1.sf) h1 fun v' d P2 s2 r2 h2=>k v' d P2 (s1.trans s2) r2 h2
  |false=>exact k _ _ P1 s1 (.bl _) h1
theorem Mq {ta tb:TE} {t u:DE} (a:cG K B ta t) (b:cG K B tb u):cG K B (tOrV ta tb) (Ro t u):=fun σ P ρ Q q hB hE h k=>
 a σ P ρ _ _ hB hE h fun v x P1 s1 r1 ⟨c,e,h1⟩=>by
  subst e
  refine ⟨c,ny r1,?_⟩
  cases c with
  |false=>exact b σ P1 ρ Q q (hB.trans s1) (hE.sf s1.sf) h1 fun v' d P2 s2 r2 h2=>k v' d P2 (s1.trans s2) r2 h2
  |true=>exact k _ _ P1 s1 (.bl _) h1
theorem Je {ta:TE} {t:DE} (a:cG K B ta t):cG K B (tNotV ta) (OI t):=fun σ P ρ Q q hB hE h k=>
 a σ P ρ _ _ hB hE h fun v x P1 s1 r1 ⟨c,e,h1⟩=>by
  subst e
  exact ⟨c,ny r1,k _ _ P1 s1 (.bl _) h1⟩
def TF (c:DT) (t u:DE):DE:=fun ρ μ q=>c ρ μ fun b μ1=>if b=true then t ρ μ1 q else u ρ μ1 q
theorem OJ {tc:TT} {ta tb:TE} {c:DT} {t u:DE} (hc:zX K B tc c) (a:cG K B ta t) (b:cG K B tb u):cG K B (tIf tc ta tb) (TF c t u):=fun σ P ρ Q q hB hE h k=>
 hc σ P ρ _ _ hB hE h fun b' P1 s1 h1=>by
  cases b' with
  |true=>exact a σ P1 ρ Q q (hB.trans s1) (hE.sf s1.sf) h1 fun v' d P2 s2 r2 h2=>k v' d P2 (s1.trans s2) r2 h2
  |false=>exact b σ P1 ρ Q q (hB.trans s1) (hE.sf s1.sf) h1 fun v' d P2 s2 r2 h2=>k v' d P2 (s1.trans s2) r2 h2
def FU (r r':DR) (t u w:DE):DE:=fun ρ μ q=>t ρ μ fun x μ1=>u ρ μ1 fun y μ2=>r x y μ2 fun z μ3=>∃ k,z=.bl k∧if k=true then w ρ μ3 fun y' μ4=>r' y y' μ4 fun z' μ5=>∃ k',z'=.bl k'∧q (.bl k') μ5 else q (.bl false) μ3
def valD {κ:Type} [DecidableEq κ] (kvs:List (κ×Dt)) (k:κ):Option Dt:=(kvs.find? fun kv=>decide (kv.1=k)).map (·.2)
def uC:Dt→Option Key
 |.int i=>some (.inl i)
 |.str x=>some (.inr x)
 |_=>none
theorem lC {G:Hp} {v:V} {d:Dt} {k:Key} (r:Rp K G v d) (h:uC d=some k):v=kV k:=by
 cases r <;> cases h <;> rfl
theorem gW.val {G:Hp} {k:Key}:∀ {vs:List (Key×V)} {ds:List (Key×Dt)},gW K G vs ds→∀ o,valD ds k=o→∃ w,valV vs k=w∧(match w,o with |some v,some d=>Rp K G v d |none,none=>True |_,_=>False)
 |_,_,.nil,o,h=>by subst h;exact ⟨none,rfl,trivial⟩
 |_,_,.cons (f:=f) (d:=d) (ds:=ds) h1 t,o,h=>by
  by_cases e:f=k
  ·subst e
   have:valD ((f,d)::ds) f=some d:=by unfold valD;simp [List.find?_cons]
   rw [this] at h
   subst h
   exact ⟨_,valV_pos rfl,h1⟩
  ·rw [valV_neg (p:=(f,_)) e]
   refine gW.val t o ?_
   rw [← h]
   unfold valD
   simp [List.find?_cons,e]
def oE (μ:Mu):Dt→Option (List (Key×Dt))
 |.dct ds=>some ds
 |.raw (.ref a)=>match μ a with
  |some (.dct ds)=>some ds
  |_=>none
 |_=>none
theorem uD {P:Pt} {v:V} {d:Dt} {ds:List (Key×Dt)} (s:Sat K P) (r:Rp K P.G v d) (h:oE P.μ d=some ds):∃ a kvs,v=.ref a∧L2.Rd P.H a (.dK kvs)∧gW K P.G kvs ds:=by
 cases r with
 |dct h1 e t=>
  cases h
  obtain ⟨o',h',e'⟩:=s.sub _ _ h1
  exact ⟨_,_,rfl,uA h' (e'.trans e),t⟩
 |raw w=>
  cases v with
  |ref a=>
   have h':(match P.μ a with
    |some (.dct ds)=>some ds
    |_=>none)=some ds:=h
   cases e:P.μ a with
   |none=>rw [e] at h';cases h'
   |some o=>
    obtain ⟨_,ok⟩:=s.mu a o e
    rw [e] at h'
    cases o with
    |dct ds=>
     cases h'
     obtain ⟨vs,h1,t⟩:=ok
     exact ⟨a,vs,rfl,.inl h1,t⟩
    |_=>cases h'
  |_=>cases h
 |_=>cases h
def FW (td ty:DE):DE:=fun ρ μ q=>td ρ μ fun x μ1=>ty ρ μ1 fun y μ2=>∃ ds k d,oE μ2 x=some ds∧uC y=some k∧valD ds k=some d∧q d μ2
theorem jy {td ty:TE} {t u:DE} (a:cG K B td t) (b:cG K B ty u):cG K B (tDGet td ty) (FW t u):=fun σ P ρ Q q hB hE h k=>
 a σ P ρ _ _ hB hE h fun v x P1 s1 r1 h1=>b σ P1 ρ _ _ (hB.trans s1) (hE.sf s1.sf) h1 fun w y P2 s2 r2 ⟨ds,ky,d,e1,e2,e3,h2⟩=>by
  obtain ⟨p,kvs,rfl,hp,t⟩:=uD s2.sat (r1.sf s2.sf) e1
  obtain ⟨o,e4,e5⟩:=t.val _ e3
  cases o with
  |none=>exact e5.elim
  |some z=>exact ⟨p,z,rfl,.inl ⟨kvs,ky,hp,lC r2 e2,e4.symm⟩,k _ _ P2 (s1.trans s2) e5 h2⟩
def pN (μ:Mu):Dt→Option (Addr×List (Str×Dt))
 |.ins C fs=>some (C,fs)
 |.raw (.ref a)=>match μ a with
  |some (.ins C fs)=>some (C,fs)
  |_=>none
 |_=>none
theorem xF {P:Pt} {v:V} {d:Dt} {C:Addr} {ds:List (Str×Dt)} (s:Sat K P) (r:Rp K P.G v d) (h:pN P.μ d=some (C,ds)):∃ a dx fs,v=.ref a∧P.H a=some (.ins C dx fs)∧qC K P.G fs ds:=by
 cases r with
 |ins h1 t=>cases h;exact ⟨_,_,_,rfl,s.sub.fH h1 rfl,t⟩
 |raw w=>
  cases v with
  |ref a=>
   have h':(match P.μ a with
    |some (.ins C fs)=>some (C,fs)
    |_=>none)=some (C,ds):=h
   cases e:P.μ a with
   |none=>rw [e] at h';cases h'
   |some o=>
    obtain ⟨_,ok⟩:=s.mu a o e
    rw [e] at h'
    cases o with
    |ins C ds=>
     cases h'
     obtain ⟨dx,vs,h1,t⟩:=ok
     exact ⟨a,dx,vs,rfl,h1,t⟩
    |_=>cases h'
  |_=>cases h
 |_=>cases h
def Jf (C:Addr) (f:Str) (t:DE):DE:=fun ρ μ q=>t ρ μ fun x μ1=>∃ fs d,pN μ1 x=some (C,fs)∧fs.lookup f=some d∧q d μ1
theorem fz {C:Addr} {f:Str} {te:TE} {t:DE} (c:Cls K C) (n:NoAttr K C f) (a:cG K B te t):cG K B (tFld K te f) (Jf C f t):=fun σ P ρ Q q hB hE h k=>
 a σ P ρ _ _ hB hE h fun v x P1 s1 r1 ⟨fs,d,e1,e2,h1⟩=>by
  obtain ⟨p,dx,vs,rfl,hp,t⟩:=xF s1.sat r1 e1
  obtain ⟨z,e3,r⟩:=t.lookup e2
  exact ⟨p,C,dx,vs,z,rfl,hp,c,n,e3,k _ _ P1 s1 r h1⟩
def TH (C:Addr) (f:Str) (t:DE):DE:=fun ρ μ q=>t ρ μ fun x μ1=>∃ fs d,x=.exc C fs∧fs.lookup f=some d∧q d μ1
theorem OL {C:Addr} {f:Str} {te:TE} {t:DE} (T:XfC K C) (n:findIn K (.ref C) f=some none) (a:cG K B te t):cG K B (Tt K f te) (TH C f t):=fun σ P ρ Q q hB hE h k=>
 a σ P ρ _ _ hB hE h fun v x P1 s1 r1 ⟨fs,d,e1,e2,h1⟩=>by
  subst e1
  cases r1 with
  |FF h=>cases e2
  |exc h g t=>
   obtain ⟨z,e3,r⟩:=t.lookup e2
   exact ⟨_,C,_,_,z,rfl,s1.sat.sub.fH h rfl,s1.sat.sub.fH g rfl,e3,T,n,k _ _ P1 s1 r h1⟩
variable {W:WX} {w:XQ} {sp:iP}
theorem o9 {σ:L2.St} {P:Pt} {ρ:Ev} {Q:VK} {q:DQ} {vs:List V} {ds:List Dt} (hW:DW K B W w) (hB:Step K B P) (hE:Env K P.G σ ρ) (r:dh K P.G vs ds) (h:sp ds P.μ q (fun C fs μ=>w C fs ρ μ))
  (k:∀ v d P',Step K P P'→Rp K P'.G v d→q d P'.μ→Q v P'.H):aV K sp vs P.H Q (Fc W σ):=
 ⟨P,ds,q,_,rfl,hB.sat,r,h,k,fun C fs dd P' s f h'=>hW σ P' ρ C dd fs (hB.trans s) (hE.sf s.sf) f h'⟩
def TJ:XQ:=fun _ _ _ _=>False
theorem aB:DW K B Th TJ:=fun _ _ _ _ _ _ _ _ _ h=>h.elim
def dG (sp:iP) (dvs:List Dt) (w:XQ) (t:DA):DE:=fun ρ μ q=>t ρ μ fun ds μ1=>sp (ds++dvs) μ1 q (fun C fs μ2=>w C fs ρ μ2)
theorem dg {dvs:List V} {TM:List Dt} {ta:TA} {t:DA} (hW:DW K B W w) (hd:∀ G,dh K G dvs TM) (a:we K B ta t):cG K B (tG (aV K sp) dvs W ta) (dG sp TM w t):=fun σ P ρ Q q hB hE h k=>
 a σ P ρ _ _ hB hE h fun vs ds P1 s1 r1 h1=>o9 hW (hB.trans s1) (hE.sf s1.sf) (r1.append (hd _)) h1 fun v d P2 s2 r2 h2=>k v d P2 (s1.trans s2) r2 h2
def xG (K:Frag) (n m:Nat) (gV:List V→List V→List V) (gD:List Dt→List Dt→List Dt):Prop:=∀ {G:Hp} {vs zs:List V} {ds es:List Dt},ds.length=n→es.length=m→dh K G vs ds→dh K G zs es→dh K G (gV vs zs) (gD ds es)
def TN (n m:Nat) (sp:iP) (gD:List Dt→List Dt→List Dt) (w:XQ) (t u:DA):DE:=fun ρ μ q=>t ρ μ fun ds μ1=>u ρ μ1 fun es μ2=>ds.length=n∧es.length=m∧sp (gD ds es) μ2 q (fun C fs μ3=>w C fs ρ μ3)
theorem wg {C:Addr} {n m:Nat} {gV:List V→List V→List V} {gD:List Dt→List Dt→List Dt} {ta tk:TA} {t u:DA} (hW:DW K B W w) (hb:xG K n m gV gD) (a:we K B ta t) (b:we K B tk u) :
  cG K B (Tv C n m (aV K sp) gV W (tC (.ref C)) ta tk) (TN n m sp gD w t u):=fun σ P ρ Q q hB hE h k=>
 ⟨rfl,a σ P ρ _ _ hB hE h fun vs ds P1 s1 r1 h1=>b σ P1 ρ _ _ (hB.trans s1) (hE.sf s1.sf) h1 fun zs es P2 s2 r2 ⟨l1,l2,h2⟩=>
  ⟨r1.length.trans l1,r2.length.trans l2,o9 hW (hB.trans (s1.trans s2)) (hE.sf (s1.trans s2).sf) (hb l1 l2 (r1.sf s2.sf) r2) h2 fun v d P3 s3 r3 h3=>k v d P3 (s1.trans (s2.trans s3)) r3 h3⟩⟩
def TQ (C:Addr) (f:Str) (n m:Nat) (sp:iP) (gD:List Dt→List Dt→List Dt) (w:XQ) (to:DE) (t u:DA):DE:=fun ρ μ q=>to ρ μ fun x μ0=>(∃ fs,pN μ0 x=some (C,fs)∧fs.lookup f=none)∧
 t ρ μ0 fun ds μ1=>u ρ μ1 fun es μ2=>ds.length=n∧es.length=m∧sp (gD (x::ds) es) μ2 q (fun C fs μ3=>w C fs ρ μ3)
theorem FY {C:Addr} {f:Str} {n m:Nat} {gV:List V→List V→List V} {gD:List Dt→List Dt→List Dt} {te:TE} {ta tk:TA} {to:DE} {t u:DA} (hW:DW K B W w) (hb:xG K (n+1) m gV gD) (o:cG K B te to) (a:we K B ta t) (b:we K B tk u) :
  cG K B (Rh C f n m (aV K sp) gV W te ta tk) (TQ C f n m sp gD w to t u):=fun σ P ρ Q q hB hE h k=>
 o σ P ρ _ _ hB hE h fun v x P0 s0 r0 ⟨⟨fs,e1,e2⟩,h0⟩=>by
  obtain ⟨p,dx,gs,rfl,hp,tf⟩:=xF s0.sat r0 e1
  refine ⟨p,dx,gs,rfl,hp,tf.no e2,?_⟩
  exact a σ P0 ρ _ _ (hB.trans s0) (hE.sf s0.sf) h0 fun vs ds P1 s1 r1 h1=>b σ P1 ρ _ _ (hB.trans (s0.trans s1)) (hE.sf (s0.trans s1).sf) h1 fun zs es P2 s2 r2 ⟨l1,l2,h2⟩=>
   ⟨r1.length.trans l1,r2.length.trans l2,o9 hW (hB.trans (s0.trans (s1.trans s2))) (hE.sf (s0.trans (s1.trans s2)).sf) (hb (show (x::ds).length=n+1 from congrArg Nat.succ l1) l2 (.cons (r0.sf (s1.trans s2).sf) (r1.sf s2.sf)) r2) h2 fun v d P3 s3 r3 h3=>k v d P3 (s0.trans (s1.trans (s2.trans s3))) r3 h3⟩
theorem C2 {P:Pt} {C x dx:Addr} (s:Sat K P) (hx:P.H x=none) (hd:P.H dx=none) (n:dx≠x):Step K P ⟨P.G,upd (upd P.H dx (.own x)) x (.ins C dx []),aJ P.μ x (.ins C [])⟩:=by
 have s1:Step K P ⟨P.G,upd P.H dx (.own x),P.μ⟩:=.lay s hd
 refine s1.trans (Step.put s1.sat (s.none hx).1 (.inl ?_) ⟨dx,[],upd_same,.nil⟩)
 show upd P.H dx _ x=none
 rw [upd_ne n.symm]
 exact hx
theorem Step.drop {P:Pt} {a:Addr} (s:Sat K P):Step K P ⟨P.G,P.H,iD P.μ a⟩:=by
 refine ⟨.refl,⟨s.sub,fun b o e=>?_,s.sys,s.tabs,s.gt⟩,fun b o e1 _ e2 e3=>⟨e1,e2,?_⟩,fun b x v e=>e⟩
 ·have e':(if b=a then none else P.μ b)=some o:=e
  split at e'
  ·cases e'
  ·exact s.mu b o e'
 ·show (if b=a then none else P.μ b)=none
  split
  ·rfl
  ·exact e3
structure FZ (C x:Addr) (q:DQ) (v:Dt) (μ:Mu):Prop where
 non:v=.non
 at_:∃ fs,μ x=some (.ins C fs)∧q (.ins C fs) (iD μ x)
structure MadeX (x:Addr) (w:Addr→List (Str×Dt)→Mu→Prop) (C:Addr) (fs:List (Str×Dt)) (μ:Mu):Prop where
 at_:w C fs (iD μ x)
def NO (C:Addr) (n m:Nat) (sp:iP) (gD:List Dt→List Dt→List Dt) (w:XQ) (t u:DA):DE:=fun ρ μ q=>t ρ μ fun ds μ1=>u ρ μ1 fun es μ2=>ds.length=n∧es.length=m∧
 ∀ x,μ2 x=none→sp (gD (.raw (.ref x)::ds) es) (aJ μ2 x (.ins C [])) (FZ C x q) (MadeX x fun C fs μ3=>w C fs ρ μ3)
theorem nB {C:Addr} {n m:Nat} {gV:List V→List V→List V} {gD:List Dt→List Dt→List Dt} {ta tk:TA} {t u:DA} (hW:DW K B W w) (hb:xG K (n+1) m gV gD) (a:we K B ta t) (b:we K B tk u) :
  cG K B (Tu C n m (aV K sp) gV W ta tk) (NO C n m sp gD w t u):=fun σ P ρ Q q hB hE h k=>
 a σ P ρ _ _ hB hE h fun vs ds P1 s1 r1 h1=>b σ P1 ρ _ _ (hB.trans s1) (hE.sf s1.sf) h1 fun zs es P2 s2 r2 ⟨l1,l2,h2⟩=>by
  refine ⟨r1.length.trans l1,r2.length.trans l2,fun x dx hx hd ne=>?_⟩
  have s3:=C2 (C:=C) s2.sat hx hd ne
  have vF:=s1.trans (s2.trans s3)
  refine ⟨⟨P2.G,upd (upd P2.H dx (.own x)) x (.ins C dx []),aJ P2.μ x (.ins C [])⟩,_,_,_,rfl,s3.sat,hb (show (Dt.raw (.ref x)::ds).length=n+1 from congrArg Nat.succ l1) l2 (.cons (.raw _) (r1.sf (s2.trans s3).sf)) (r2.sf s3.sf),h2 x (s2.sat.none hx).2,?_,?_⟩
  ·rintro v d P' s r ⟨rfl,⟨fs,e,hq⟩⟩
   refine ⟨by cases r;rfl,?_⟩
   obtain ⟨g,dx',gs,hp,tf⟩:=s.sat.mu x _ e
   have s4:=Step.fix s.sat e hp
   exact k (.ref x) (.ins C fs) ⟨upd P'.G x (.ins C dx' gs),P'.H,iD P'.μ x⟩ (vF.trans (s.trans s4)) (.ins upd_same (tf.sf s4.sf)) hq
  ·intro C' fs dd P' s f hw
   replace hw:=hw.at_
   have s4:Step K P' ⟨P'.G,P'.H,iD P'.μ x⟩:=.drop s.sat
   exact hW σ ⟨P'.G,P'.H,iD P'.μ x⟩ ρ C' dd fs (hB.trans (vF.trans (s.trans s4))) (hE.sf (vF.trans (s.trans s4)).sf) f hw
abbrev NP:=Ev→DR
def Jg (K:Frag) (B:Pt) (r:L2.St→R2) (t:NP):Prop:=∀ (σ:L2.St) (ρ:Ev) (x y:V) (a b:Dt) (P:Pt) (Q:VK) (q:DQ),Step K B P→Env K P.G σ ρ→Rp K P.G x a→Rp K P.G y b→t ρ a b P.μ q→(∀ v d P',Step K P P'→Rp K P'.G v d→q d P'.μ→Q v P'.H)→r σ x y P.H Q
def C3 (r:NP) (t u:DE):DE:=fun ρ μ q=>t ρ μ fun x μ1=>u ρ μ1 fun y μ2=>r ρ x y μ2 q
theorem xH {r:L2.St→R2} {d:NP} {ta tb:TE} {t u:DE} (hr:Jg K B r d) (a:cG K B ta t) (b:cG K B tb u):cG K B (IP r ta tb) (C3 d t u):=fun σ P ρ Q q hB hE h k=>
 a σ P ρ _ _ hB hE h fun v x P1 s1 r1 h1=>b σ P1 ρ _ _ (hB.trans s1) (hE.sf s1.sf) h1 fun w y P2 s2 r2 h2=>
  hr σ ρ v w x y P2 Q q (hB.trans (s1.trans s2)) (hE.sf (s1.trans s2).sf) (r1.sf s2.sf) r2 h2 fun v' d' P3 s3 r3 h3=>k v' d' P3 (s1.trans (s2.trans s3)) r3 h3
def yU (C:Addr) (μ:Mu) (x:Dt):Prop:=∃ fs,pN μ x=some (C,fs)
theorem mE {P:Pt} {v:V} {d:Dt} {C:Addr} (s:Sat K P) (r:Rp K P.G v d) (h:yU C P.μ d):H9 C P.H v:=by
 obtain ⟨fs,e⟩:=h
 obtain ⟨p,dx,gs,rfl,hp,_⟩:=xF s r e
 exact ⟨p,dx,gs,rfl,hp⟩
theorem Mr {G:Hp} {v:V} {d:Dt} (r:Rp K G v d) (h:∃ j,d=.int j):∃ j,v=.int j:=by
 obtain ⟨j,rfl⟩:=h
 exact ⟨j,fX r⟩
def Jh (C:Addr) (sp:iP) (w:XQ):NP:=fun ρ x y μ q=>yU C μ x∧(yU C μ y∨∃ j,y=.int j)∧sp [x,y] μ q (fun C fs μ2=>w C fs ρ μ2)
theorem BG {C:Addr} (hW:DW K B W w):Jg K B (Mf C (aV K sp) W) (Jh C sp w):=fun σ ρ x y a b P Q q hB hE r1 r2 ⟨h1,h2,h3⟩ k=>
 ⟨mE hB.sat r1 h1,h2.imp (mE hB.sat r2) (Mr r2),o9 hW hB hE (.cons r1 (.cons r2 .nil)) h3 k⟩
def Ji (C:Addr) (μ:Mu) (y:Dt):Prop:=yU C μ y∨∃ p,Py y p
theorem BH {P:Pt} {v:V} {d:Dt} {C:Addr} (s:Sat K P) (r:Rp K P.G v d) (h:Ji C P.μ d):IZ K C P.H v:=h.imp (mE s r) fun ⟨p,h⟩=>⟨p,r.rd s.sub h⟩
def OM (C:Addr) (sp:iP):NP:=fun _ x y μ q=>yU C μ x∧Ji C μ y∧sp [x,y] μ q fun _ _ _=>False
def ON (C:Addr) (sp:iP):NP:=fun _ x y μ q=>yU C μ x∧Ji C μ y∧sp [x,y] μ (fun v μ'=>∃ c,v=.bl c∧q (.bl (!c)) μ') fun _ _ _=>False
theorem qP {P:Pt} {Q:VK} {E:XK} {q:DQ} {vs:List V} {ds:List Dt} (s:Sat K P) (r:dh K P.G vs ds) (h:sp ds P.μ q fun _ _ _=>False) (k:∀ v d P',Step K P P'→Rp K P'.G v d→q d P'.μ→Q v P'.H):aV K sp vs P.H Q E:=
 ⟨P,ds,q,_,rfl,s,r,h,k,fun C fs dd P' s f h'=>h'.elim⟩
theorem Jj {C:Addr}:Jg K B (KQ K C (aV K sp)) (OM C sp):=fun σ ρ x y a b P Q q hB hE r1 r2 ⟨h1,h2,h3⟩ k=>⟨mE hB.sat r1 h1,BH hB.sat r2 h2,qP hB.sat (.cons r1 (.cons r2 .nil)) h3 k⟩
theorem Jk {C:Addr}:Jg K B (KS K C (aV K sp)) (ON C sp):=fun σ ρ x y a b P Q q hB hE r1 r2 ⟨h1,h2,h3⟩ k=>⟨mE hB.sat r1 h1,BH hB.sat r2 h2,qP hB.sat (.cons r1 (.cons r2 .nil)) h3 fun v d P' s r ⟨c,e,hq⟩=>by
 subst e
 exact ⟨c,ny r,k _ _ P' s (.bl _) hq⟩⟩
def Jl (C:Addr) (sp:iP):DU:=fun x μ q=>yU C μ x∧sp [x] μ q fun _ _ _=>False
theorem F0 {C:Addr}:Rl K B (Tw C (aV K sp)) (Jl C sp):=fun x a P Q q hB r1 ⟨h1,h3⟩ k=>⟨mE hB.sat r1 h1,qP hB.sat (.cons r1 .nil) h3 k⟩
def OO (C:Addr) (sp:iP):Dt→Mu→(Bool→Mu→Prop)→Prop:=fun x μ q=>yU C μ x∧sp [x] μ (fun v μ'=>∃ c,v=.bl c∧q c μ') fun _ _ _=>False
theorem Ms {C:Addr} {x:V} {a:Dt} {P:Pt} {Q:Bool→Hp→Prop} {q:Bool→Mu→Prop} (hB:Step K B P) (r1:Rp K P.G x a) (h:OO C sp a P.μ q) (k:∀ c P',Step K P P'→q c P'.μ→Q c P'.H):Ri C (aV K sp) x P.H Q:=
 ⟨mE hB.sat r1 h.1,qP hB.sat (.cons r1 .nil) h.2 fun v d P' s r ⟨c,e,hq⟩=>by
  subst e
  exact ⟨c,ny r,k c P' s hq⟩⟩
def KZ (C:Addr) (sp:iP) (t:DE):DT:=fun ρ μ q=>t ρ μ fun x μ1=>OO C sp x μ1 q
theorem C4 {C:Addr} {te:TE} {t:DE} (a:cG K B te t):zX K B (fun σ H Q=>te σ H fun x H'=>Ri C (aV K sp) x H' Q) (KZ C sp t):=fun σ P ρ Q q hB hE h k=>
 a σ P ρ _ _ hB hE h fun v x P1 s1 r1 h1=>Ms (hB.trans s1) r1 h1 fun c P' s hq=>k c P' (s1.trans s) hq
abbrev zY:=List Dt→Mu→DQ→Prop
def BI (K:Frag) (B:Pt) (r:List V→Hp→VK→Prop) (t:zY):Prop:=∀ (vs:List V) (ds:List Dt) (P:Pt) (Q:VK) (q:DQ),Step K B P→dh K P.G vs ds→t ds P.μ q→(∀ v d P',Step K P P'→Rp K P'.G v d→q d P'.μ→Q v P'.H)→r vs P.H Q
def xJ (r:zY) (t:DA):DE:=fun ρ μ q=>t ρ μ fun ds μ1=>r ds μ1 q
theorem cM {r:List V→Hp→VK→Prop} {d:zY} {ta:TA} {t:DA} (hr:BI K B r d) (a:we K B ta t):cG K B (tCB r ta) (xJ d t):=fun σ P ρ Q q hB hE h k=>
 a σ P ρ _ _ hB hE h fun vs ds P1 s1 r1 h1=>hr vs ds P1 Q q (hB.trans s1) r1 h1 fun v' d' P2 s2 r2 h2=>k v' d' P2 (s1.trans s2) r2 h2
theorem mF {G:Hp} {vs:List V} {d:Dt} (r:dh K G vs [d]):∃ v,vs=[v]∧Rp K G v d:=by
 cases r with
 |cons h t=>cases t;exact ⟨_,rfl,h⟩
theorem C5 {G:Hp} {vs:List V} {d e:Dt} (r:dh K G vs [d,e]):∃ v w,vs=[v,w]∧Rp K G v d∧Rp K G w e:=by
 cases r with
 |cons h t=>
  obtain ⟨w,rfl,r2⟩:=mF t
  exact ⟨_,w,rfl,h,r2⟩
def Mv (μ:Mu):Dt→Option Nat
 |.str y=>some y.length
 |.lst ds=>some ds.length
 |.tup ds=>some ds.length
 |.raw (.ref a)=>match μ a with
  |some (.lst ds)=>some ds.length
  |_=>none
 |_=>none
def Jm:zY:=fun xs μ q=>∃ d n,xs=[d]∧Mv μ d=some n∧(∀ z,d=.str z→z.length≤sizeLine)∧q (.int n) μ
theorem sM:BI K B (fun xs H Q=>∃ x n,xs=[x]∧LenV K x H n∧Q (.int n) H) Jm:=fun vs ds P Q q hB r ⟨d,n,e,e2,hz,h⟩ k=>by
 subst e
 obtain ⟨v,rfl,r1⟩:=mF r
 refine ⟨v,n,rfl,?_,k _ _ P (.refl hB.sat) (.int _) h⟩
 cases r1 with
 |str x=>cases e2;exact ⟨hz x rfl,rfl⟩
 |lst hs _ t=>cases e2;exact .inl ⟨_,hB.sat.sub.seq (.of hs),t.length.symm⟩
 |tup hs t=>cases e2;exact .inr ⟨_,hB.sat.sub.tup hs,t.length.symm⟩
 |raw w=>
  cases v with
  |ref a=>
   have h':(match P.μ a with
    |some (.lst ds)=>some ds.length
    |_=>none)=some n:=e2
   cases e:P.μ a with
   |none=>rw [e] at h';cases h'
   |some o=>
    obtain ⟨_,ok⟩:=hB.sat.mu a o e
    rw [e] at h'
    cases o with
    |lst ds=>
     cases h'
     obtain ⟨vs,h1,_,t⟩:=ok
     exact .inl ⟨vs,.inl (.inl h1),t.length.symm⟩
    |_=>cases h'
  |_=>cases e2
 |_=>cases e2
def K0:zY:=fun xs μ q=>(∃ i,xs=[.int i]∧q (.int i) μ)∨∃ k,xs=[.bl k]∧q (.int (if k then 1 else 0)) μ
theorem xK:BI K B (fun xs H Q=>(∃ i,xs=[.int i]∧Q (.int i) H)∨∃ k,xs=[.bl k]∧Q (.int (if k then 1 else 0)) H) K0:=fun vs ds P Q q hB r h k=>by
 rcases h with ⟨i,e,h⟩|⟨c,e,h⟩
 ·subst e
  obtain ⟨v,rfl,r1⟩:=mF r
  obtain rfl:=fX r1
  exact .inl ⟨i,rfl,k _ _ P (.refl hB.sat) (.int _) h⟩
 ·subst e
  obtain ⟨v,rfl,r1⟩:=mF r
  obtain rfl:=ny r1
  exact .inr ⟨c,rfl,k _ _ P (.refl hB.sat) (.int _) h⟩
def Mw:zY:=fun xs μ q=>(∃ i,xs=[.int i]∧q (.bl (i != 0)) μ)∨∃ k,xs=[.bl k]∧q (.bl k) μ
theorem vG:BI K B (fun xs H Q=>(∃ i,xs=[.int i]∧Q (.bl (i != 0)) H)∨∃ k,xs=[.bl k]∧Q (.bl k) H) Mw:=fun vs ds P Q q hB r h k=>by
 rcases h with ⟨i,e,h⟩|⟨c,e,h⟩
 ·subst e
  obtain ⟨v,rfl,r1⟩:=mF r
  obtain rfl:=fX r1
  exact .inl ⟨i,rfl,k _ _ P (.refl hB.sat) (.bl _) h⟩
 ·subst e
  obtain ⟨v,rfl,r1⟩:=mF r
  obtain rfl:=ny r1
  exact .inr ⟨c,rfl,k _ _ P (.refl hB.sat) (.bl _) h⟩
def Rq:zY:=fun xs μ q=>∃ i,xs=[.int i]∧q (.int (if i<0 then -i else i)) μ
theorem sN:BI K B (fun xs H Q=>∃ i,xs=[.int i]∧Q (.int (if i<0 then -i else i)) H) Rq:=fun vs ds P Q q hB r ⟨i,e,h⟩ k=>by
 subst e
 obtain ⟨v,rfl,r1⟩:=mF r
 obtain rfl:=fX r1
 exact ⟨i,rfl,k _ _ P (.refl hB.sat) (.int _) h⟩
theorem F2 {G:Hp}:∀ {vs:List V} {bs:List Bool},dh K G vs (bs.map Dt.bl)→vs=bs.map V.bl
 |[],[],_=>rfl
 |_::_,[],h=>by cases h
 |_,b::bs,h=>by
  cases h with
  |cons h t=>
   obtain rfl:=ny h
   rw [F2 t]
   rfl
def Mx:zY:=fun xs μ q=>∃ bs:List Bool,xs=[.lst (bs.map Dt.bl)]∧q (.bl (bs.all id)) μ
theorem AI:BI K B (rAll K) Mx:=fun vs ds P Q q hB r ⟨bs,e,h⟩ k=>by
 subst e
 obtain ⟨v,rfl,r1⟩:=mF r
 cases r1 with
 |lst hs n t=>
  obtain rfl:=F2 t
  exact ⟨_,bs,rfl,hB.sat.sub.seq (.of hs),k _ _ P (.refl hB.sat) (.bl _) h⟩
inductive Ib (K:Frag) (μ:Mu):Dt→Value→Prop
 |py {d:Dt} {p:PyData} (h:Py d p):Ib K μ d (.type (H8 p))
 |lst (ds:List Dt):Ib K μ (.lst ds) (.type "list")
 |tup (ds:List Dt):Ib K μ (.tup ds) (.type "tuple")
 |dct (ds:List (Key×Dt)):Ib K μ (.dct ds) (.type "dict")
 |OP {a:Addr} {ds:List (Key×Dt)} (h:μ a=some (.dct ds)):Ib K μ (.raw (.ref a)) (.type "dict")
 |own {d:Dt} {C:Addr} (o:pB K C) (h:yU C μ d):Ib K μ d (.ref C)
 |exc {C:Addr} (fs:List (Str×Dt)) (x:IA K C):Ib K μ (.exc C fs) (.ref C)
 |mix (ks:List Dt):Ib K μ (.mix ks) (.type "dict")
theorem OQ {P:Pt} {v:V} {d:Dt} {t:Value} (s:Sat K P) (r:Rp K P.G v d) (h:Ib K P.μ d t):Ty K P.H v t:=by
 cases h with
 |py h=>exact (r.rd s.sub h).ty
 |lst ds=>cases r with
  |lst hs n t=>
   rcases s.sub.seq (.of hs) with (s |⟨o,s⟩)|⟨o,its,n,e,c,_⟩
   ·exact .x (.base (.lst s))
   ·exact .x (.base (.frz s))
   ·exact .x (.kList e c)
 |tup ds=>cases r with
  |tup hs t=>
   rcases s.sub.tup hs with (s |⟨o,s⟩)|⟨o,its,n,e,c,_⟩
   ·exact .x (.base (.tup s))
   ·exact .x (.fTuple s)
   ·exact .x (.kTuple e c)
 |dct ds=>cases r with
  |dct h1 e t=>
   obtain ⟨o',h',e'⟩:=s.sub _ _ h1
   rcases uA h' (e'.trans e) with q |⟨o,q⟩
   ·exact .x (.base (.dK q))
   ·exact .x (.fDict q)
 |OP h=>
  obtain rfl:=kY r
  obtain ⟨_,kvs,e,_⟩:=s.mu _ _ h
  exact .x (.base (.dK e))
 |own o h=>exact o.tyOf (mE s r h)
 |mix ks=>cases r with
  |mix h t=>exact .mix (s.sub.fH h rfl)
 |exc fs x=>cases r with
  |FF h=>exact .exc (s.sub.fH h rfl) (fun dd e=>nomatch e) x
  |exc h g t=>exact .exc (s.sub.fH h rfl) (fun dd e=>by cases e;exact ⟨_,s.sub.fH g rfl⟩) x
structure Ic (K:Frag) (xs:List Dt) (μ:Mu) (q:DQ):Prop where
 ex:∃ (d:Dt) (c:V) (t u:Value) (b:Bool),xs=[d,.raw c]∧ClsV c u∧Ib K μ d t∧kitOne K t u=some b∧q (.bl b) μ
theorem cZ:BI K B (Qh K) (Ic K):=fun vs ds P Q q hB r ⟨⟨d,c,t,u,b,e,hc,ht,hk,h⟩⟩ k=>by
 subst e
 obtain ⟨v,w,rfl,r1,r2⟩:=C5 r
 obtain rfl:=kY r2
 exact LX hc (OQ hB.sat r1 ht) hk (k _ _ P (.refl hB.sat) (.bl _) h)
end
end HS
namespace HS
open PySem PySem.Spec PyProof.Rows L2
section
variable [MK] {K:Frag} {B:Pt}
def yV:DS:=fun d ρ μ=>d.nx ρ μ
def vH (t u:DS):DS:=fun d ρ μ=>t {d with nx:=u d} ρ μ
theorem bE:nM K B tNext yV:=fun σ P ρ D d hB hE h k=>k.nx σ P ρ (.refl hB.sat) hE h
theorem az {ts us:TS} {t u:DS} (a:nM K B ts t) (b:nM K B us u):nM K B (tSeq ts us) (vH t u):=fun σ P ρ D d hB hE h k=>
 a σ P ρ _ _ hB hE h ⟨fun σ' P' ρ' s e hn=>b σ' P' ρ' D d (hB.trans s) e hn (k.mono s),k.rt,k.bk,k.ct⟩
def Rr (t u:DS):DS:=fun d ρ μ=>∃ mid:Ev→Mu→Prop,t {d with nx:=mid} ρ μ∧∀ ρ' μ',mid ρ' μ'→u d ρ' μ'
theorem My {ts us:TS} {t u:DS} (a:nM K B ts t) (b:nM K B us u):nM K B (C8.tCut ts us) (Rr t u):=fun σ P ρ D d hB hE ⟨mid,h1,h2⟩ k=>by
 refine ⟨fun σ' H'=>∃ P' ρ',P'.H=H'∧Step K P P'∧Env K P'.G σ' ρ'∧mid ρ' P'.μ,a σ P ρ _ _ hB hE h1 ⟨fun σ' P' ρ' s e hn=>⟨P',ρ',rfl,s,e,hn⟩,k.rt,k.bk,k.ct⟩,?_⟩
 rintro σ' H' ⟨P',ρ',rfl,s,e,hn⟩
 exact b σ' P' ρ' D d (hB.trans s) e (h2 _ _ hn) (k.mono s)
def OS (t:DE):DS:=fun d ρ μ=>t ρ μ fun _ μ1=>d.nx ρ μ1
theorem Jo {te:TE} {t:DE} (a:cG K B te t):nM K B (tDrop te) (OS t):=fun σ P ρ D d hB hE h k=>a σ P ρ _ _ hB hE h fun v x P1 s r h1=>k.nx σ P1 ρ s (hE.sf s.sf) h1
def F3 (t:DE):DS:=fun d ρ μ=>t ρ μ d.rt
theorem aU {te:TE} {t:DE} (a:cG K B te t):nM K B (tRet te) (F3 t):=fun σ P ρ D d hB hE h k=>a σ P ρ _ _ hB hE h fun v x P1 s r h1=>k.rt v x P1 s r h1
def yW (c:DT) (t u:DS):DS:=fun d ρ μ=>c ρ μ fun b μ1=>if b=true then t d ρ μ1 else u d ρ μ1
theorem cJ {tc:TT} {ts us:TS} {c:DT} {t u:DS} (hc:zX K B tc c) (a:nM K B ts t) (b:nM K B us u):nM K B (tIfS tc ts us) (yW c t u):=fun σ P ρ D d hB hE h k=>
 hc σ P ρ _ _ hB hE h fun b' P1 s h1=>by
  cases b' with
  |true=>exact a σ P1 ρ D d (hB.trans s) (hE.sf s.sf) h1 (k.mono s)
  |false=>exact b σ P1 ρ D d (hB.trans s) (hE.sf s.sf) h1 (k.mono s)
def iG (i:Nat):DG:=fun x ρ μ q=>q (ρ.set i (some x)) μ
theorem aH {i:Nat}:NN K B (gName i) (iG i):=fun v x σ P ρ Q q hB r hE h k=>k _ P _ (.refl hB.sat) (hE.set r) h
def F4:Ia:=fun xs ρ μ q=>xs=[]∧q ρ μ
def xM (t:DG) (u:Ia):Ia:=fun xs ρ μ q=>∃ x r,xs=x::r∧t x ρ μ fun ρ' μ'=>u r ρ' μ' q
theorem tZ:I8 K B gNil F4:=fun v x σ P ρ Q q hB r hE ⟨e,h⟩ k=>by
 subst e
 cases r
 exact ⟨rfl,k σ P ρ (.refl hB.sat) hE h⟩
theorem iW {g:TG} {gs:TGs} {t:DG} {u:Ia} (a:NN K B g t) (b:I8 K B gs u):I8 K B (gCons g gs) (xM t u):=fun v x σ P ρ Q q hB r hE ⟨y,ys,e,h⟩ k=>by
 subst e
 cases r with
 |cons r1 r2=>
  exact ⟨_,_,rfl,a _ _ σ P ρ _ _ hB r1 hE h fun σ' P' ρ' s e h'=>b _ _ σ' P' ρ' _ _ (hB.trans s) (r2.sf s.sf) e h' fun σ2 P2 ρ2 s2 e2 h2=>k σ2 P2 ρ2 (s.trans s2) e2 h2⟩
def F5 (n:Nat) (t:Ia):DG:=fun x ρ μ q=>∃ xs,x=.tup xs∧xs.length=n∧t xs ρ μ q
theorem t6 {n:Nat} {gs:TGs} {t:Ia} (a:I8 K B gs t):NN K B (gTup K n gs) (F5 n t):=fun v x σ P ρ Q q hB r hE ⟨xs,e,l,h⟩ k=>by
 subst e
 cases r with
 |tup hs t=>exact ⟨_,_,rfl,hB.sat.sub.tup hs,t.length.trans l,a _ _ σ P ρ Q q hB t hE h k⟩
def F6 (t:DE) (g:DG):DS:=fun d ρ μ=>t ρ μ fun x μ1=>g x ρ μ1 d.nx
theorem bU {te:TE} {g:TG} {t:DE} {u:DG} (a:cG K B te t) (b:NN K B g u):nM K B (tAsg te g) (F6 t u):=fun σ P ρ D d hB hE h k=>
 a σ P ρ _ _ hB hE h fun v x P1 s r h1=>b v x σ P1 ρ _ _ (hB.trans s) r (hE.sf s.sf) h1 fun σ' P' ρ' s' e h'=>k.nx σ' P' ρ' (s.trans s') e h'
def Mz (i j:Nat) (t:DA):DS:=fun d ρ μ=>t ρ μ fun xs μ1=>∃ x y,xs=[x,y]∧d.nx ((ρ.set i (some x)).set j (some y)) μ1
theorem F7 {i j:Nat} {ta:TA} {t:DA} (a:we K B ta t):nM K B (tPar i j ta) (Mz i j t):=fun σ P ρ D d hB hE h k=>
 a σ P ρ _ _ hB hE h fun vs xs P1 s r ⟨x,y,e,h1⟩=>by
  subst e
  obtain ⟨v,w,rfl,r1,r2⟩:=C5 r
  exact ⟨v,w,rfl,k.nx _ P1 _ s (((hE.sf s.sf).set r1).set r2) h1⟩
theorem Jp {i j:Nat} {ta:TA} {t:DA} (a:we K B ta t):nM K B (KN i j ta) (Mz i j t):=fun σ P ρ D d hB hE h k=>
 a σ P ρ _ _ hB hE h fun vs xs P1 s r ⟨x,y,e,h1⟩=>by
  subst e
  obtain ⟨v,w,rfl,r1,r2⟩:=C5 r
  refine ⟨v,w,rfl,fun p hp=>?_⟩
  have s2:Step K P1 ⟨upd P1.G p (.tup [v,w]),upd P1.H p (.tup [v,w]),P1.μ⟩:=.new s.sat hp
  exact k.nx _ ⟨upd P1.G p (.tup [v,w]),upd P1.H p (.tup [v,w]),P1.μ⟩ _ (s.trans s2) (((hE.sf (s.trans s2).sf).set (r1.sf s2.sf)).set (r2.sf s2.sf)) h1
def K1 (C:Addr) (f:Str) (to tv:DE):DS:=fun d ρ μ=>tv ρ μ fun y μ1=>to ρ μ1 fun x μ2=>∃ a fs,x=.raw (.ref a)∧μ2 a=some (.ins C fs)∧fs.length<1000∧d.nx ρ (aJ μ2 a (.ins C (putD f y fs)))
theorem t7 {C:Addr} {f:Str} {ta tv:TE} {to tw:DE} (c:Cls K C) (n:NoAttr K C f) (a:cG K B ta to) (b:cG K B tv tw):nM K B (sFld K ta tv f) (K1 C f to tw):=fun σ P ρ D d hB hE h k=>
 b σ P ρ _ _ hB hE h fun v y P1 s1 r1 h1=>a σ P1 ρ _ _ (hB.trans s1) (hE.sf s1.sf) h1 fun w x P2 s2 r2 ⟨p,fs,e1,e2,l,h2⟩=>by
  subst e1
  obtain rfl:=kY r2
  obtain ⟨g,dx,vs,hp,t⟩:=s2.sat.mu p _ e2
  refine ⟨p,C,dx,vs,rfl,hp,c,n,by rw [t.length];exact l,?_⟩
  have s3:Step K P2 ⟨P2.G,upd P2.H p (.ins C dx (putF f v vs)),aJ P2.μ p (.ins C (putD f y fs))⟩:=.put s2.sat g (.inr (by rw [e2];simp)) ⟨dx,_,upd_same,t.put (r1.sf s2.sf)⟩
  exact k.nx σ ⟨P2.G,upd P2.H p (.ins C dx (putF f v vs)),aJ P2.μ p (.ins C (putD f y fs))⟩ ρ (s1.trans (s2.trans s3)) (hE.sf (s1.trans (s2.trans s3)).sf) h2
def gZ {κ:Type} [DecidableEq κ] (kvs:List (κ×Dt)) (k:κ) (v:Dt):List (κ×Dt):=
 if (kvs.any fun kv=>decide (kv.1=k))=true then kvs.map (fun kv=>if kv.1=k then (kv.1,v) else kv) else kvs++[(k,v)]
theorem gW.any {G:Hp} {p:Key→Bool}:∀ {vs:List (Key×V)} {ds:List (Key×Dt)},gW K G vs ds→(vs.any fun kv=>p kv.1)=ds.any fun kv=>p kv.1
 |_,_,.nil=>rfl
 |_,_,.cons h t=>by simp [gW.any t]
theorem gW.append {G:Hp}:∀ {vs ws:List (Key×V)} {ds es:List (Key×Dt)},gW K G vs ds→gW K G ws es→gW K G (vs++ws) (ds++es)
 |_,_,_,_,.nil,q=>q
 |_,_,_,_,.cons h t,q=>.cons h (t.append q)
theorem gW.AJ {G:Hp} {k:Key} {v:V} {d:Dt} (r:Rp K G v d):∀ {vs:List (Key×V)} {ds:List (Key×Dt)},gW K G vs ds→gW K G (vs.map fun kv=>if kv.1=k then (kv.1,v) else kv) (ds.map fun kv=>if kv.1=k then (kv.1,d) else kv)
 |_,_,.nil=>.nil
 |_,_,.cons (f:=f) h t=>by
  simp only [List.map_cons]
  by_cases e:f=k
  ·rw [if_pos e,if_pos e]
   exact .cons r (gW.AJ r t)
  ·rw [if_neg e,if_neg e]
   exact .cons h (gW.AJ r t)
theorem gW.put {G:Hp} {vs:List (Key×V)} {ds:List (Key×Dt)} {k:Key} {v:V} {d:Dt} (t:gW K G vs ds) (r:Rp K G v d):gW K G (putK vs k v) (gZ ds k d):=by
 unfold putK gZ
 rw [t.any (p:=fun f=>decide (f=k))]
 split
 ·exact t.AJ r
 ·exact t.append (.cons r .nil)
theorem gW.length {G:Hp}:∀ {vs:List (Key×V)} {ds:List (Key×Dt)},gW K G vs ds→vs.length=ds.length
 |_,_,.nil=>rfl
 |_,_,.cons _ t=>congrArg Nat.succ t.length
def K2 (td ty tv:DE):DS:=fun d ρ μ=>tv ρ μ fun v μ1=>td ρ μ1 fun x μ2=>ty ρ μ2 fun y μ3=>∃ a ds k,x=.raw (.ref a)∧μ3 a=some (.dct ds)∧uC y=some k∧ds.length<sizeLine∧d.nx ρ (aJ μ3 a (.dct (gZ ds k v)))
theorem t8 {td ty tv:TE} {ud uy uv:DE} (a:cG K B td ud) (b:cG K B ty uy) (c:cG K B tv uv):nM K B (sDPut td ty tv) (K2 ud uy uv):=fun σ P ρ D d hB hE h k=>
 c σ P ρ _ _ hB hE h fun v x P1 s1 r1 h1=>a σ P1 ρ _ _ (hB.trans s1) (hE.sf s1.sf) h1 fun w y P2 s2 r2 h2=>b σ P2 ρ _ _ (hB.trans (s1.trans s2)) (hE.sf (s1.trans s2).sf) h2 fun u z P3 s3 r3 ⟨p,ds,ky,e1,e2,e3,l,h3⟩=>by
  subst e1
  obtain rfl:=kY r2
  obtain ⟨g,vs,hp,t⟩:=s3.sat.mu p _ e2
  refine ⟨p,_,rfl,.inl ⟨vs,ky,hp,lC r3 e3,by rw [t.length];exact l,rfl⟩,?_⟩
  have s4:Step K P3 ⟨P3.G,upd P3.H p (.dK (putK vs ky v)),aJ P3.μ p (.dct (gZ ds ky x))⟩:=.put s3.sat g (.inr (by rw [e2];simp)) ⟨_,upd_same,t.put (r1.sf (s2.trans s3).sf)⟩
  have s:=s1.trans (s2.trans (s3.trans s4))
  exact k.nx σ ⟨P3.G,upd P3.H p (.dK (putK vs ky v)),aJ P3.μ p (.dct (gZ ds ky x))⟩ ρ s (hE.sf s.sf) h3
variable {W:WX} {w:XQ}
def BJ (C:Addr) (f:Str) (w:XQ) (t:DA):DS:=fun _ ρ μ=>t ρ μ fun ds μ1=>∃ d,ds=[d]∧w C [(f,d)] ρ μ1
theorem fJ {C:Addr} {f:Str} {ta:TA} {t:DA} (hW:DW K B W w) (a:we K B ta t):nM K B (fun _ σ H=>ta σ H fun vs H1=>∃ v,vs=[v]∧∀ d,H1 d=none→W (.ref C) (some d) σ (upd H1 d (.xd [(f,v)]))) (BJ C f w t):=fun σ P ρ D d hB hE h k=>
 a σ P ρ _ _ hB hE h fun vs ds P1 s r ⟨x,e,h1⟩=>by
  subst e
  obtain ⟨v,rfl,r1⟩:=mF r
  refine ⟨v,rfl,fun p hp=>?_⟩
  have s2:Step K P1 ⟨upd P1.G p (.xd [(f,v)]),upd P1.H p (.xd [(f,v)]),P1.μ⟩:=.new s.sat hp
  exact hW σ ⟨upd P1.G p (.xd [(f,v)]),upd P1.H p (.xd [(f,v)]),P1.μ⟩ ρ C (some p) [(f,x)] (hB.trans (s.trans s2)) (hE.sf (s.trans s2).sf) ⟨_,upd_same,.cons (r1.sf s2.sf) .nil⟩ h1
def Jq (C:Addr) (w:XQ):DS:=fun _ ρ μ=>w C [] ρ μ
theorem C6 {C:Addr} (hW:DW K B W w):nM K B (fun _ σ H=>W (.ref C) none σ H) (Jq C w):=fun σ P ρ D d hB hE h k=>hW σ P ρ C none [] hB hE rfl h
def MA (K:Frag) (c:Value) (i:Nat) (ts:DS) (w:XQ) (d:gX):XQ:=fun C fs ρ μ=>∃ b,PySem.W.exmOne K (.ref C) c=some b∧
 (b=true→ts {nx:=fun ρ' μ'=>d.nx (ρ'.set i none) μ',rt:=d.rt,bk:=fun ρ' μ'=>d.bk (ρ'.set i none) μ',ct:=fun ρ' μ'=>d.ct (ρ'.set i none) μ' } (ρ.set i (some (.exc C fs))) μ)∧(b=false→w C fs ρ μ)
def OT (K:Frag) (c:Value) (i:Nat) (tb:XQ→DS) (ts:DS) (w:XQ):DS:=fun d ρ μ=>tb (MA K c i ts w d) d ρ μ
theorem MC {c:Value} {i:Nat} {tb:WX→TS} {ts:Addr→TS} {TR:XQ→DS} {Ru:DS} (hW:DW K B W w) (hb:∀ (B':Pt) (W':WX) (w':XQ),Step K B B'→DW K B' W' w'→nM K B' (tb W') (TR w')) (hs:∀ (B':Pt) (a:Addr),nM K B' (ts a) Ru) :
  nM K B (fun D σ H=>tb (Ra K c i ts W D) D σ H) (OT K c i TR Ru w):=fun σ P ρ D d hB hE h k=>by
 refine hb P _ (MA K c i Ru w d) hB (fun σ1 P1 ρ1 C dd fs s1 E1 ex ⟨b,e,h1,h2⟩=>⟨b,e,fun hb' a ha=>?_,fun hb'=>hW σ1 P1 ρ1 C dd fs (hB.trans s1) E1 ex (h2 hb')⟩) σ P ρ D d (.refl hB.sat) hE h k
 have s2:Step K P1 ⟨upd P1.G a (Bp a (.ref C) dd),upd P1.H a (Bp a (.ref C) dd),P1.μ⟩:=.new s1.sat ha
 have hr:Rp K (upd P1.G a (Bp a (.ref C) dd)) (.ref a) (.exc C fs):=by
  cases dd with
  |none=>
   have e0:fs=[]:=ex
   subst e0
   exact .FF upd_same
  |some q=>
   obtain ⟨vs,hq,t⟩:=ex
   exact .exc upd_same (s2.sf.fH hq rfl) (t.sf s2.sf)
 have zZ:=s1.trans s2
 refine hs P a (σ1.set i (some (.ref a))) ⟨upd P1.G a (Bp a (.ref C) dd),upd P1.H a (Bp a (.ref C) dd),P1.μ⟩ (ρ1.set i (some (.exc C fs))) _ _ zZ ((E1.sf s2.sf).set hr) (h1 hb') ?_
 exact ⟨fun σ' P' ρ' s e hn=>k.nx _ P' _ (zZ.trans s) (e.del none) hn,fun v x P' s r hn=>k.rt v x P' (zZ.trans s) r hn,fun σ' P' ρ' s e hn=>k.bk _ P' _ (zZ.trans s) (e.del none) hn,fun σ' P' ρ' s e hn=>k.ct _ P' _ (zZ.trans s) (e.del none) hn⟩
def MD (c:DT) (tb:DS):DS:=fun d ρ μ=>∃ W:Nat→Ev→Mu→Prop,(∃ m,W m ρ μ)∧∀ m ρ μ,W m ρ μ→c ρ μ fun b μ1=>if b=true then ∃ N:Ev→Mu→Prop,(∀ ρ' μ',N ρ' μ'→∃ m',m'<m∧W m' ρ' μ')∧tb {d with nx:=N,ct:=N,bk:=d.nx} ρ μ1 else d.nx ρ μ1
theorem F8 {tc:TT} {tb:TS} {c:DT} {t:DS} (hc:zX K B tc c) (hb:nM K B tb t):nM K B (tWhile tc tb) (MD c t):=fun σ P ρ D d hB hE ⟨Wd,⟨m0,h0⟩,turn⟩ k=>by
 refine ⟨fun m σ' H'=>∃ P' ρ',P'.H=H'∧Step K P P'∧Env K P'.G σ' ρ'∧Wd m ρ' P'.μ,⟨m0,P,ρ,rfl,.refl hB.sat,hE,h0⟩,?_⟩
 rintro m σ' H' ⟨P',ρ',rfl,s,e,hw⟩
 refine hc σ' P' ρ' _ _ (hB.trans s) e (turn m ρ' P'.μ hw) fun b P1 s1 h1=>?_
 cases b with
 |false=>exact k.nx σ' P1 ρ' (s.trans s1) (e.sf s1.sf) h1
 |true=>
  obtain ⟨N,hN,h1⟩:=h1
  refine ⟨fun σ2 H2=>∃ P2 ρ2,P2.H=H2∧Step K P P2∧Env K P2.G σ2 ρ2∧N ρ2 P2.μ,?_,?_⟩
  ·rintro σ2 H2 ⟨P2,ρ2,rfl,s2,e2,hn⟩
   obtain ⟨m',l,VF⟩:=hN _ _ hn
   exact ⟨m',l,P2,ρ2,rfl,s2,e2,VF⟩
  ·have OU:=s.trans s1
   exact hb σ' P1 ρ' _ _ (hB.trans OU) (e.sf s1.sf) h1 ⟨fun σ2 P2 ρ2 s2 e2 hn=>⟨P2,ρ2,rfl,OU.trans s2,e2,hn⟩,fun v x P2 s2 r hn=>k.rt v x P2 (OU.trans s2) r hn,fun σ2 P2 ρ2 s2 e2 hn=>k.nx σ2 P2 ρ2 (OU.trans s2) e2 hn,
    fun σ2 P2 ρ2 s2 e2 hn=>⟨P2,ρ2,rfl,OU.trans s2,e2,hn⟩⟩
structure uE (K:Frag) (P:Pt) (J:It) (ds:List Dt):Prop where
 stop:∀ P',Step K P P'→J.stop ds.length P'.H
 go:∀ i P',i<ds.length→Step K P P'→J.go i P'.H
 yld:∀ i P' x H',Step K P P'→i<ds.length→J.yld i P'.H x H'→∃ P2 d,P2.H=H'∧P2.μ=P'.μ∧Step K P' P2∧ds[i]? = some d∧Rp K P2.G x d
abbrev DI:=Ev→Mu→(List Dt→Mu→Prop)→Prop
def LiI (K:Frag) (B:Pt) (wi:TI) (t:DI):Prop:=∀ (σ:L2.St) (P:Pt) (ρ:Ev) (R:It→Hp→Prop) (q:List Dt→Mu→Prop),Step K B P→Env K P.G σ ρ→t ρ P.μ q→(∀ J ds P',Step K P P'→uE K P' J ds→q ds P'.μ→R J P'.H)→wi σ P.H R
theorem oF {P:Pt} {J:It} {xs:List V} {ds:List Dt} {Gd:Hp→Prop} (R:Runs J xs Gd) (hg:∀ P',Step K P P'→Gd P'.H) (t:dh K P.G xs ds):uE K P J ds:=
 ⟨fun P' s=>t.length▸R.stop _ (hg P' s),fun i P' h s=>R.go i _ (by rw [t.length];exact h) (hg P' s),fun i P' x H' s hi y=>by
  rcases R.yld i P'.H x H' (hg P' s) y with ⟨rfl,e⟩|e
  ·obtain ⟨d,e1,r⟩:=t.Ov e
   exact ⟨P',d,rfl,rfl,.refl s.sat,e1,r.sf s.sf⟩
  ·rw [t.length] at e
   omega⟩
def xN (t:DE):DI:=fun ρ μ q=>t ρ μ fun x μ1=>∃ ds,x=.lst ds∧q ds μ1
theorem iX {te:TE} {t:DE} (a:cG K B te t):LiI K B (iList K te) (xN t):=fun σ P ρ R q hB hE h k=>
 a σ P ρ _ _ hB hE h fun v x P1 s r ⟨ds,e,h1⟩=>by
  subst e
  cases r with
  |lst hs n t=>exact ⟨_,rfl,⟨_,s.sat.sub.seq (.of hs)⟩,k _ _ P1 s (oF CU (fun P' s'=>s'.sat.sub.seq (s'.sf.seq (.of hs))) t) h1⟩
def ME (t:DE):DI:=fun ρ μ q=>t ρ μ fun x μ1=>∃ ds,x=.tup ds∧q ds μ1
theorem BK {te:TE} {t:DE} (a:cG K B te t):LiI K B (iTup K te) (ME t):=fun σ P ρ R q hB hE h k=>
 a σ P ρ _ _ hB hE h fun v x P1 s r ⟨ds,e,h1⟩=>by
  subst e
  cases r with
  |tup hs t=>exact ⟨_,rfl,⟨_,s.sat.sub.tup hs⟩,k _ _ P1 s (oF Fi (fun P' s'=>s'.sat.sub.tup (s'.sf.tup hs)) t) h1⟩
def F9 (t:DE):DI:=fun ρ μ q=>(t ρ μ fun x μ1=>∃ ds,x=.lst ds∧q ds μ1)∨(t ρ μ fun x μ1=>∃ ds,x=.tup ds∧q ds μ1)
theorem Jr {te:TE} {t:DE} (a:cG K B te t):LiI K B (fun σ H R=>iList K te σ H R∨iTup K te σ H R) (F9 t):=fun σ P ρ R q hB hE h k=>
 h.imp (fun h=>iX a σ P ρ R q hB hE h k) (fun h=>BK a σ P ρ R q hB hE h k)
theorem yX {G:Hp}:∀ (f:Nat→Int) (ns:List Nat),dh K G (ns.map fun k=>V.int (f k)) (ns.map fun k=>Dt.int (f k))
 |_,[]=>.nil
 |f,n::ns=>.cons (.int _) (yX f ns)
def xO (lo:Int) (n:Nat):List Dt:=(List.range n).map fun k=>Dt.int (lo+(k:Nat))
def Ga (t:DA):DI:=fun ρ μ q=>t ρ μ fun ds μ1=>∃ j:Int,ds=[.int j]∧-(2 ^ 62)≤j∧j<2 ^ 62∧q (xO 0 j.toNat) μ1
theorem wh {ta:TA} {t:DA} (a:we K B ta t):LiI K B (iRng1 ta) (Ga t):=fun σ P ρ R q hB hE h k=>
 a σ P ρ _ _ hB hE h fun vs ds P1 s r ⟨j,e,l1,l2,h1⟩=>by
  subst e
  obtain ⟨v,rfl,r1⟩:=mF r
  obtain rfl:=fX r1
  exact ⟨j,rfl,l1,l2,k _ _ P1 s (oF (Ff 0 j.toNat) (fun _ _=>trivial) (yX (fun k=>0+(k:Nat)) _)) h1⟩
theorem rY {G:Hp}:∀ cs:List Nat,dh K G (cs.map fun c=>V.str ⟨#[c]⟩) (cs.map fun c=>Dt.str ⟨#[c]⟩)
 |[]=>.nil
 |c::cs=>.cons (.str _) (rY cs)
def Gb (t:DE):DI:=fun ρ μ q=>t ρ μ fun x μ1=>∃ z:Str,x=.str z∧q (z.cps.toList.map fun c=>Dt.str ⟨#[c]⟩) μ1
theorem Js {te:TE} {t:DE} (a:cG K B te t):LiI K B (iStr te) (Gb t):=fun σ P ρ R q hB hE h k=>
 a σ P ρ _ _ hB hE h fun v x P1 s r ⟨z,e,h1⟩=>by
  subst e
  exact ⟨z,uw r,k _ _ P1 s (oF (Fg z) (fun _ _=>trivial) (rY _)) h1⟩
structure NQ (g:DG) (tb:DS) (d:gX) (ds:List Dt) (ρ:Ev) (μ:Mu):Prop where
 ex:∃ I:Nat→Ev→Mu→Prop,I 0 ρ μ∧(∀ i x ρ μ,I i ρ μ→ds[i]? = some x→g x ρ μ fun ρ2 μ2=>tb {d with nx:=I (i+1),ct:=I (i+1),bk:=d.nx} ρ2 μ2)∧∀ ρ μ,I ds.length ρ μ→d.nx ρ μ
def Jt (ti:DI) (g:DG) (tb:DS):DS:=fun d ρ μ=>ti ρ μ fun ds μ1=>NQ g tb d ds ρ μ1
theorem C7 {J:It} {P:Pt} {ds:List Dt} {g:TG} {tb:TS} {gd:DG} {t:DS} {σ:L2.St} {ρ:Ev} {D:Ends} {d:gX} (hB:Step K B P) (R:uE K P J ds) (hg:NN K B g gd) (hb:nM K B tb t) (hE:Env K P.G σ ρ) (h:NQ gd t d ds ρ P.μ) (k:Ow K P D d) :
  Qj J g tb D σ P.H:=by
 unfold Qj
 obtain ⟨I,h0,turn,fin⟩:=h.ex
 refine ⟨fun i m σ' H'=>m=ds.length - i∧i≤ds.length∧∃ P' ρ',P'.H=H'∧Step K P P'∧Env K P'.G σ' ρ'∧I i ρ' P'.μ,⟨_,rfl,Nat.zero_le _,P,ρ,rfl,.refl hB.sat,hE,h0⟩,?_⟩
 rintro i m σ' H' ⟨rfl,hi,P',ρ',rfl,s,e,hf⟩
 by_cases hl:i<ds.length
 ·refine .inr ⟨R.go i P' hl s,fun σ2 H2=>∃ P2 ρ2,P2.H=H2∧Step K P P2∧Env K P2.G σ2 ρ2∧I (i+1) ρ2 P2.μ,?_,fun x H2 y=>?_⟩
  ·rintro σ2 H2 ⟨P2,ρ2,rfl,s2,e2,h2⟩
   exact ⟨_,by omega,rfl,hl,P2,ρ2,rfl,s2,e2,h2⟩
  ·obtain ⟨P2,x',rfl,hm,s2,hx,r⟩:=R.yld i P' x H2 s hl y
   have hf':gd x' ρ' P2.μ fun ρ2 μ2=>t {d with nx:=I (i+1),ct:=I (i+1),bk:=d.nx} ρ2 μ2:=turn i x' ρ' P2.μ (by rw [hm];exact hf) hx
   have zZ:=s.trans s2
   refine hg x x' σ' P2 ρ' _ _ (hB.trans zZ) r (e.sf s2.sf) hf' fun σ3 P3 ρ3 s3 e3 h3=>?_
   have vF:=zZ.trans s3
   exact hb σ3 P3 ρ3 _ _ (hB.trans vF) e3 h3 ⟨fun σ4 P4 ρ4 s4 e4 hn=>⟨P4,ρ4,rfl,vF.trans s4,e4,hn⟩,fun v x P4 s4 r4 hn=>k.rt v x P4 (vF.trans s4) r4 hn,fun σ4 P4 ρ4 s4 e4 hn=>k.nx σ4 P4 ρ4 (vF.trans s4) e4 hn,
    fun σ4 P4 ρ4 s4 e4 hn=>⟨P4,ρ4,rfl,vF.trans s4,e4,hn⟩⟩
 ·have e0:i=ds.length:=by omega
  subst e0
  exact .inl ⟨R.stop P' s,k.nx σ' P' ρ' s e (fin _ _ hf)⟩
theorem qq {wi:TI} {g:TG} {tb:TS} {ti:DI} {gd:DG} {t:DS} (hi:LiI K B wi ti) (hg:NN K B g gd) (hb:nM K B tb t):nM K B (yP wi g tb) (Jt ti gd t):=fun σ P ρ D d hB hE h k=>
 IF (hi σ P ρ _ _ hB hE h fun J ds P1 s R h1=>C7 (hB.trans s) R hg hb (hE.sf s.sf) h1 (k.mono s))
def MF (K:Frag) (B:Pt) (vs:List Nat) (g:TG) (t:DG):Prop:=∀ (v:V) (x:Dt) (σ:L2.St) (P:Pt) (ρ:Ev) (Q:L2.St→Hp→Prop) (q:Ev→Mu→Prop),Step K B P→Rp K P.G v x→Env K P.G σ ρ→t x ρ P.μ q→
 (∀ σ' P' ρ',Step K P P'→Env K P'.G σ' ρ'→L2.wipe σ' vs=L2.wipe σ vs→q ρ' P'.μ→Q σ' P'.H)→g v σ P.H Q
def Ju (K:Frag) (B:Pt) (vs:List Nat) (g:TGs) (t:Ia):Prop:=∀ (v:List V) (x:List Dt) (σ:L2.St) (P:Pt) (ρ:Ev) (Q:L2.St→Hp→Prop) (q:Ev→Mu→Prop),Step K B P→dh K P.G v x→Env K P.G σ ρ→t x ρ P.μ q→
 (∀ σ' P' ρ',Step K P P'→Env K P'.G σ' ρ'→L2.wipe σ' vs=L2.wipe σ vs→q ρ' P'.μ→Q σ' P'.H)→g v σ P.H Q
theorem uF (σ:L2.St) (i:Nat) (o:Option V):∀ vs:List Nat,(L2.wipe (σ.set i o) vs)=(L2.wipe σ vs).set i (if i∈vs then none else o)
 |[]=>by simp [L2.wipe]
 |v::vs=>by
  show (L2.wipe (σ.set i o) vs).set v none=((L2.wipe σ vs).set v none).set i _
  rw [uF σ i o vs]
  by_cases e:i=v
  ·subst e
   rw [List.set_set,List.set_set]
   simp
  ·rw [List.set_comm _ _ e]
   by_cases h:i∈vs <;> simp [h,e]
theorem Jv {σ:L2.St} {i:Nat} {o:Option V} {vs:List Nat} (h:i∈vs):L2.wipe (σ.set i o) vs=L2.wipe σ vs:=by
 rw [uF,if_pos h]
 induction vs with
 |nil=>cases h
 |cons v vs ih=>
  show ((L2.wipe σ vs).set v none).set i none=(L2.wipe σ vs).set v none
  by_cases e:i=v
  ·subst e
   rw [List.set_set]
  ·rw [List.set_comm _ _ (fun z=>e z.symm),ih (by
    rcases List.mem_cons.mp h with z |z
    ·exact absurd z e
    ·exact z)]
theorem bM {i:Nat} {vs:List Nat} (h:i∈vs):MF K B vs (gName i) (iG i):=fun v x σ P ρ Q q hB r hE hh k=>k _ P _ (.refl hB.sat) (hE.set r) (Jv h) hh
theorem BL {vs:List Nat}:Ju K B vs gNil F4:=fun v x σ P ρ Q q hB r hE ⟨e,h⟩ k=>by
 subst e
 cases r
 exact ⟨rfl,k σ P ρ (.refl hB.sat) hE rfl h⟩
theorem qQ {vs:List Nat} {g:TG} {gs:TGs} {t:DG} {u:Ia} (a:MF K B vs g t) (b:Ju K B vs gs u):Ju K B vs (gCons g gs) (xM t u):=fun v x σ P ρ Q q hB r hE ⟨y,ys,e,h⟩ k=>by
 subst e
 cases r with
 |cons r1 r2=>
  exact ⟨_,_,rfl,a _ _ σ P ρ _ _ hB r1 hE h fun σ' P' ρ' s e w h'=>b _ _ σ' P' ρ' _ _ (hB.trans s) (r2.sf s.sf) e h' fun σ2 P2 ρ2 s2 e2 w2 h2=>k σ2 P2 ρ2 (s.trans s2) e2 (w2.trans w) h2⟩
theorem BN {vs:List Nat} {n:Nat} {gs:TGs} {t:Ia} (a:Ju K B vs gs t):MF K B vs (gTup K n gs) (F5 n t):=fun v x σ P ρ Q q hB r hE ⟨xs,e,l,h⟩ k=>by
 subst e
 cases r with
 |tup hs t=>exact ⟨_,_,rfl,hB.sat.sub.tup hs,t.length.trans l,a _ _ σ P ρ Q q hB t hE h k⟩
def AK:DT:=fun _ μ q=>q true μ
theorem gy:zX K B tYes AK:=fun σ P ρ Q q hB hE h k=>k true P (.refl hB.sat) h
structure NR (g:DG) (tt:DT) (te:DE) (ρ:Ev) (q:DQ) (ds:List Dt) (μ:Mu):Prop where
 ex:∃ I:Nat→List Dt→Mu→Prop,I 0 [] μ∧(∀ i x acc μ,I i acc μ→ds[i]? = some x→g x ρ μ fun ρ2 μ2=>tt ρ2 μ2 fun b μ3=>if b=true then te ρ2 μ3 fun y μ4=>I (i+1) (acc++[y]) μ4 else I (i+1) acc μ3)∧∀ acc μ,I ds.length acc μ→q (.lst acc) μ
def NS (ti:DI) (g:DG) (tt:DT) (te:DE) (vs:List Nat):DE:=fun ρ μ q=>ti ρ μ fun ds μ1=>ds.length≤sizeLine∧NR g tt te (j5 ρ vs) q ds μ1
theorem yY {J:It} {P:Pt} {ds:List Dt} {g:TG} {tt:TT} {te:TE} {gd:DG} {td:DT} {ed:DE} {vs:List Nat} {σ:L2.St} {ρ:Ev} {Q:VK} {q:DQ} (hB:Step K B P) (R:uE K P J ds) (hg:MF K B vs g gd) (ht:zX K B tt td) (he:cG K B te ed) (hE:Env K P.G σ ρ)
  (hn:ds.length≤sizeLine) (h:NR gd td ed (j5 ρ vs) q ds P.μ) (k:∀ v d P',Step K P P'→Rp K P'.G v d→q d P'.μ→Q v P'.H) {D:Addr} (hD:P.H D=none):Qi J g tt te vs σ Q D P.H:=by
 unfold Qi
 obtain ⟨I,h0,turn,fin⟩:=h.ex
 have nD:D≠sysModules:=hB.sat.ne hD
 have s0:∀ ws:List V,Step K P ⟨P.G,upd P.H D (.lst ws),P.μ⟩:=fun u=>.lay hB.sat hD
 refine ⟨fun i m H'=>m=ds.length - i∧i≤ds.length∧∃ (P':Pt) (acc:List V) (ad:List Dt),P'.H=H'∧Step K P P'∧P'.H D=some (.lst acc)∧P'.G D=none∧P'.μ D=none∧acc.length≤i∧dh K P'.G acc ad∧I i ad P'.μ,
  ⟨_,rfl,Nat.zero_le _,⟨P.G,upd P.H D (.lst []),P.μ⟩,[],[],rfl,s0 _,upd_same,(hB.sat.none hD).1,(hB.sat.none hD).2,Nat.le_refl _,.nil,h0⟩,?_⟩
 rintro i m H' ⟨rfl,hi,P',acc,ad,rfl,s,eD,gD,mD,la,ra,hf⟩
 -- what is hidden stays
 have put:∀ {P2:Pt} (Ge:List V),Step K P P2→P2.H D=some (.lst acc)→P2.G D=none→P2.μ D=none→Step K P ⟨P2.G,upd P2.H D (.lst Ge),P2.μ⟩:=fun {P2} Ge s2 h1 h2 h3=>by
  refine ⟨s2.sf,Step.hid s2.sat h2 h3 (fun v e=>by rw [h1] at e;cases e;rfl),fun b o e1 e0 e2 e3=>?_,fun b x v e=>?_⟩
  ·have n:b≠D:=fun z=>by rw [z,hD] at e1;cases e1
   obtain ⟨q1,q2,q3⟩:=s2.fr b o e1 e0 e2 e3
   exact ⟨by show upd P2.H D _ b=_;rw [upd_ne n];exact q1,q2,q3⟩
  ·have n:b≠D:=fun z=>by rw [z,hD] at e;cases e
   show upd P2.H D _ b=_
   rw [upd_ne n]
   exact s2.lk b x v e
 by_cases hl:i<ds.length
 ·refine .inr ⟨R.go i P' hl s,fun H2=>i+1≤ds.length∧∃ (P2:Pt) (acc:List V) (ad:List Dt),P2.H=H2∧Step K P P2∧P2.H D=some (.lst acc)∧P2.G D=none∧P2.μ D=none∧acc.length≤i+1∧dh K P2.G acc ad∧I (i+1) ad P2.μ,?_,fun x H2 y=>?_⟩
  ·rintro H2 ⟨h1,h2⟩
   exact ⟨_,by omega,rfl,h1,h2⟩
  ·obtain ⟨P2,x',rfl,hm,s2,hx,r⟩:=R.yld i P' x H2 s hl y
   have hf':=turn i x' ad P2.μ (by rw [hm];exact hf) hx
   have zZ:=s.trans s2
   obtain ⟨Rv,Rx,Ry⟩:=s2.fr D _ eD rfl gD mD
   refine hg x x' (L2.wipe σ vs) P2 (j5 ρ vs) _ _ (hB.trans zZ) r (Env.wipe vs (hE.sf zZ.sf)) hf' fun σ3 P3 ρ3 s3 e3 wv h3=>?_
   have Rz:L2.wipe σ3 vs=L2.wipe σ vs:=wv.trans (qt σ vs)
   have vF:=zZ.trans s3
   obtain ⟨RA,RC,RD⟩:=s3.fr D _ Rv rfl Rx Ry
   refine ⟨Rz,ht σ3 P3 ρ3 _ _ (hB.trans vF) e3 h3 fun b P4 s4 h4=>?_⟩
   have MG:=vF.trans s4
   obtain ⟨OV,OW,OY⟩:=s4.fr D _ RA rfl RC RD
   cases b with
   |false=>exact ⟨hl,P4,acc,ad,rfl,MG,OV,OW,OY,by omega,ra.sf (s2.trans (s3.trans s4)).sf,h4⟩
   |true=>
    refine he σ3 P4 ρ3 _ _ (hB.trans MG) (e3.sf s4.sf) h4 fun v d P5 s5 r5 h5=>?_
    obtain ⟨Qm,Qn,Qo⟩:=s5.fr D _ OV rfl OW OY
    have Qp:=MG.trans s5
    refine ⟨acc,Qm,by omega,hl,⟨P5.G,upd P5.H D (.lst (acc++[v])),P5.μ⟩,acc++[v],ad++[d],rfl,put _ Qp Qm Qn Qo,upd_same,Qn,Qo,by simp;omega,(ra.sf (s2.trans (s3.trans (s4.trans s5))).sf).append (.cons r5 .nil),h5⟩
 ·have e0:i=ds.length:=by omega
  subst e0
  refine .inl ⟨R.stop P' s,?_⟩
  -- Lk list is shown
  have s9:Step K P ⟨upd P'.G D (.lst acc),P'.H,P'.μ⟩:=by
   refine ⟨s.sf.trans (.upd gD),⟨fun b v e=>?_,fun b o e=>?_,s.sat.sys,s.sat.tabs,oB s.sat.gt rfl⟩,fun b o e1 e0 e2 e3=>?_,s.lk⟩
   ·by_cases n:b=D
    ·subst n
     have e':upd P'.G b (.lst acc) b=some v:=e
     rw [upd_same] at e'
     cases e'
     exact ⟨_,eD,rfl⟩
    ·have e':upd P'.G D (.lst acc) b=some v:=e
     rw [upd_ne n] at e'
     exact s.sat.sub b v e'
   ·have n:b≠D:=fun z=>by rw [z] at e;rw [show P'.μ D=some o from e] at mD;cases mD
    obtain ⟨h1,h2⟩:=s.sat.mu b o e
    exact ⟨by show upd P'.G D _ b=_;rw [upd_ne n];exact h1,h2.sf (.upd gD) fun v q=>q⟩
   ·have n:b≠D:=fun z=>by rw [z,hD] at e1;cases e1
    obtain ⟨q1,q2,q3⟩:=s.fr b o e1 e0 e2 e3
    exact ⟨q1,by show upd P'.G D _ b=_;rw [upd_ne n];exact q2,q3⟩
  exact k (.ref D) (.lst ad) ⟨upd P'.G D (.lst acc),P'.H,P'.μ⟩ s9 (.lst upd_same nD (ra.sf (.upd gD))) (fin _ _ hf)
where
 qt (σ:L2.St):∀ vs:List Nat,L2.wipe (L2.wipe σ vs) vs=L2.wipe σ vs
  |[]=>rfl
  |v::vs=>by
   show (L2.wipe ((L2.wipe σ vs).set v none) vs).set v none=(L2.wipe σ vs).set v none
   rw [uF,qt σ vs,List.set_set]
theorem jn {wi:TI} {g:TG} {tt:TT} {te:TE} {ti:DI} {gd:DG} {td:DT} {ed:DE} {vs:List Nat} (hi:LiI K B wi ti) (hg:MF K B vs g gd) (ht:zX K B tt td) (he:cG K B te ed):cG K B (AF wi g tt te vs) (NS ti gd td ed vs):=fun σ P ρ Q q hB hE h k=>
 LZ (hi σ P ρ _ _ hB hE h fun J ds P1 s R ⟨hn,h1⟩ D hD=>yY (hB.trans s) R hg ht he (hE.sf s.sf) hn h1 (fun v d P' s' r h'=>k v d P' (s.trans s') r h') hD)
end
end HS
namespace HS
open PySem PySem.Spec PyProof.Rows L2
section
variable [MK] {K:Frag} {B:Pt}
theorem wj {G:Hp}:∀ {vs:List V} {ds:List Dt} (n:Nat),dh K G vs ds→Env K G (vs.map some++List.replicate n none) (ds.map some++List.replicate n none)
 |_,_,n,.nil=>⟨by simp,fun i d e=>by
   simp only [List.map_nil,List.nil_append] at e
   have:=List.mem_of_getElem? e
   simp at this⟩
 |_,_,n,.cons (v:=v) (vs:=vs) (d:=d) (ds:=ds) h t=>by
  have ih:=wj n t
  refine ⟨by simp [t.length],fun i e q=>?_⟩
  cases i with
  |zero=>
   simp at q
   subst q
   exact ⟨v,by simp,h⟩
  |succ i=>
   have q':(ds.map some++List.replicate n none)[i]? = some (some e):=by simpa using q
   obtain ⟨w,e1,r⟩:=ih.2 i e q'
   exact ⟨w,by simpa using e1,r⟩
theorem Gf {N:List Str} {P:Pt} {vs:List V} {ds:List Dt} {ts:TS} {t:DS} {Q:VK} {q:DQ} (li:nM K P ts t) (hS:Sat K P) (hv:dh K P.G vs ds) (hq:∀ v d P',Step K P P'→Rp K P'.G v d→q d P'.μ→Q v P'.H)
  (h:t {nx:=fun _ μ'=>q .non μ',rt:=q,bk:=fun _ _=>False,ct:=fun _ _=>False} (uu N ds) P.μ):ts {nx:=fun _ H'=>Q .non H',rt:=Q} (L2.start N vs) P.H:=by
 refine li (L2.start N vs) P (uu N ds) _ _ (.refl hS) ?_ h ⟨fun σ P' ρ s e hn=>hq .non .non P' s .non hn,hq,fun _ _ _ _ _ z=>z.elim,fun _ _ _ _ _ z=>z.elim⟩
 unfold L2.start uu
 rw [hv.length]
 exact wj _ hv
theorem lD {sp:iP} {n:Nat} {vs:List V} {H:Hp} {Q:VK} {E:XK} (h:aV K sp vs H Q E) (hl:∀ ds μ q x,sp ds μ q x→ds.length=n):vs.length=n:=by
 obtain ⟨P,ds,q,x,_,_,hv,hs,_⟩:=h
 exact hv.length.trans (hl _ _ _ _ hs)
theorem eU {P:Pt} {E:XK} {x:Addr→List (Str×Dt)→Mu→Prop} (hx:∀ C fs dd P',Step K P P'→Rj K P'.G dd fs→x C fs P'.μ→E (.ref C) dd P'.H):DW K P (fun cls d _ H=>E cls d H) (fun C fs _ μ=>x C fs μ):=
 fun σ P' ρ C dd fs s _ ex h=>hx C fs dd P' s ex h
def BO:iP:=fun ds μ q _=>∃ (p:Addr) (m:Int) (n:Nat),ds=[.raw (.ref p),.int m]∧μ p=some (.jD n)∧n≤1000000000∧0<m∧Sz 4000 m∧∀ r:Int,0≤r→r<m→q (.int r) (aJ μ p (.jD (n+1)))
theorem Gg {P:Pt} {p:Addr} {n:Nat} (s:Sat K P) (e:P.μ p=some (.jD n)):∃ c,ur n c P.H p∧P.G p=none∧∃ ns:List Int,P.G c=some (.lst (ns.map V.int)):=by
 obtain ⟨g,c,ns,b,gg,h1,h2,h3⟩:=s.mu p _ e
 refine ⟨c,⟨ns,b,gg,h1,s.sub.fH h2 rfl,(fun z=>by rw [z,g] at h2;cases h2),h3⟩,g,ns,h2⟩
theorem yZ {P:Pt} {p c:Addr} {n m:Nat} {H':Hp} {ns:List Int} (s:Sat K P) (hm:P.μ p=some (.jD n)) (g:P.G p=none) (hc:P.G c=some (.lst (ns.map V.int))) (hp:ur n c P.H p) (VG:ur m c H' p) (B:rJ p P.H H'):Step K P ⟨P.G,H',aJ P.μ p (.jD m)⟩:=by
 have sb:SF P.G H':=fun a o e=>by
  obtain ⟨o',e',h'⟩:=s.sub a o e
  exact ⟨o',B a o' (fun z=>by rw [z,g] at e;cases e) e',h'⟩
 obtain ⟨ns',b,gg,h1,h2,h3,h4⟩:=VG.ex
 have en:ns'=ns:=by
  have q:=sb.fH hc rfl
  rw [h2] at q
  have q':=Option.some.inj q
  injection q' with q'
  have inj:∀ {xs ys:List Int},xs.map V.int=ys.map V.int→xs=ys:=by
   intro xs
   induction xs with
   |nil=>intro ys h;cases ys with
    |nil=>rfl
    |cons _ _=>cases h
   |cons x xs ih=>intro ys h;cases ys with
    |nil=>cases h
    |cons y ys=>
     simp only [List.map_cons,List.cons.injEq,V.int.injEq] at h
     rw [h.1,ih h.2]
  exact inj q'
 subst en
 refine ⟨.refl,⟨sb,fun b' o e=>?_,?_,yR s.tabs (fun b o n e=>B b o n e) (fun u e=>(s.mu p _ hm).2.plain u e),s.gt⟩,fun b' o e1 _ e2 e3=>?_,fun b' x v e=>?_⟩
 ·by_cases n':b'=p
  ·subst n'
   have e':aJ P.μ b' (.jD m) b'=some o:=e
   rw [aq] at e'
   cases e'
   exact ⟨g,c,ns',b,gg,h1,hc,h4⟩
  ·have e':aJ P.μ p (.jD m) b'=some o:=e
   rw [aX n'] at e'
   obtain ⟨q1,q2⟩:=s.mu b' o e'
   exact ⟨q1,q2.sf .refl fun u h=>B b' u n' h⟩
 ·by_cases e:sysModules=p
  ·exact ⟨_,by rw [e];exact h1,rfl⟩
  ·obtain ⟨u,h,n⟩:=s.sys
   exact ⟨u,B _ _ e h,n⟩
 ·have n':b'≠p:=fun z=>by rw [z,hm] at e3;cases e3
  exact ⟨B b' o n' e1,e2,by show aJ P.μ p _ b'=_;rw [aX n'];exact e3⟩
 ·have n':b'≠p:=fun z=>by
   obtain ⟨_,_,_,q,_⟩:=hp.ex
   rw [z,q] at e
   cases e
  exact B b' _ n' e
theorem C9 {vs:List V} {H:Hp} {Q:VK} {E:XK} (h:aV K BO vs H Q E):AE vs H Q E:=by
 obtain ⟨P,ds,q,x,rfl,hS,hv,⟨p,m,n,rfl,hp,hn,h0,hm,k⟩,hq,_⟩:=h
 obtain ⟨v,w,rfl,r1,r2⟩:=C5 hv
 obtain rfl:=kY r1
 obtain rfl:=fX r2
 obtain ⟨c,hP,g,ns,hc⟩:=Gg hS hp
 exact ⟨p,c,m,n,rfl,hP,hn,h0,hm,fun r H' r0 r1 MH B=>hq _ (.int r) ⟨P.G,H',aJ P.μ p (.jD (n+1))⟩ (yZ hS hp g hc hP MH B) (.int r) (k r r0 r1)⟩
def VH:Dt→Option (List Dt)
 |.lst ds=>some ds
 |.tup ds=>some ds
 |.str z=>some (z.cps.toList.map fun c=>.str ⟨#[c]⟩)
 |_=>none
def y9:iP:=fun ds μ q _=>∃ (p:Addr) (x:Dt) (xs:List Dt) (n:Nat),ds=[.raw (.ref p),x]∧μ p=some (.jD n)∧n≤1000000000∧VH x=some xs∧(∀ z,x=.str z→z.length≤sizeLine)∧0<xs.length∧xs.length≤1000000∧∀ d∈xs,q d (aJ μ p (.jD (n+1)))
theorem dh.mem {G:Hp}:∀ {vs:List V} {ds:List Dt} {v:V},dh K G vs ds→v∈vs→∃ d∈ds,Rp K G v d
 |_,_,v,.nil,h=>by cases h
 |_,_,v,.cons (d:=d) r t,h=>by
  rcases List.mem_cons.mp h with rfl |h
  ·exact ⟨d,List.mem_cons_self,r⟩
  ·obtain ⟨e,m,q⟩:=dh.mem t h
   exact ⟨e,List.mem_cons_of_mem _ m,q⟩
theorem Dc {vs:List V} {H:Hp} {Q:VK} {E:XK} (h:aV K y9 vs H Q E):Fj K vs H Q E:=by
 obtain ⟨P,ds,q,x,rfl,hS,hv,⟨p,y,xs,n,rfl,hp,hn,hx,hz,h0,h1,k⟩,hq,_⟩:=h
 obtain ⟨v,w,rfl,r1,r2⟩:=C5 hv
 obtain rfl:=kY r1
 obtain ⟨c,hP,g,ns,hc⟩:=Gg hS hp
 have sh:SF P.G (Hd p P.H):=fun a o e=>by
  obtain ⟨o',e',h'⟩:=hS.sub a o e
  exact ⟨o',Hd.of (fun z=>by rw [z,g] at e;cases e) e',h'⟩
 have key:∃ ws,Pk K (Hd p P.H) w ws∧dh K P.G ws xs:=by
  cases r2 with
  |lst hs _ t=>cases hx;exact ⟨_,.inl ⟨_,rfl,.inl (sh.seq (.of hs))⟩,t⟩
  |tup hs t=>cases hx;exact ⟨_,.inl ⟨_,rfl,.inr (sh.tup hs)⟩,t⟩
  |str z=>cases hx;exact ⟨_,.inr ⟨z,rfl,hz z rfl,rfl⟩,rY _⟩
  |_=>cases hx
 obtain ⟨ws,hw,t⟩:=key
 refine ⟨p,c,w,ws,n,rfl,hP,hn,hw,by rw [t.length];exact h0,by rw [t.length];exact h1,fun u hu H' MH B=>?_⟩
 obtain ⟨d,hd,r⟩:=t.mem hu
 exact hq _ d ⟨P.G,H',aJ P.μ p (.jD (n+1))⟩ (yZ hS hp g hc hP MH B) r (k d hd)
def OZ:iP:=fun ds μ q _=>∃ ns:List Int,ds=[.BA ns]∧ns.length≤63∧(∀ z∈ns,Sz 1048576 z)∧∀ p,μ p=none→q (.raw (.ref p)) (aJ μ p (.jD 0))
theorem Gh {vs:List V} {H:Hp} {Q:VK} {E:XK} (h:aV K OZ vs H Q E):KL K vs H Q E:=by
 obtain ⟨P,ds,q,x,rfl,hS,hv,⟨ns,rfl,hl,hz,k⟩,hq,_⟩:=h
 obtain ⟨v,rfl,r1⟩:=mF hv
 cases r1 with
 |@BA a _ hs n=>
  refine ⟨a,ns,rfl,hS.sub.seq hs,hl,hz,fun p c H' hp hc hP S=>?_⟩
  obtain ⟨ns',b,gg,h1,h2,h3,h4⟩:=hP.ex
  obtain ⟨gp,mp⟩:=hS.none hp
  obtain ⟨gc,mc⟩:=hS.none hc
  refine hq (.ref p) (.raw (.ref p)) ⟨upd P.G c (.lst (ns'.map V.int)),H',aJ P.μ p (.jD 0)⟩ ?_ (.raw _) (k p mp)
  refine ⟨.upd gc,⟨fun e o he=>?_,fun e o he=>?_,?_,hS.tabs.ext S,oB hS.gt rfl⟩,fun e o e1 _ e2 e3=>?_,fun e x' u he=>S _ _ he⟩
  ·by_cases n:e=c
   ·subst n
    have he':upd P.G e (.lst (ns'.map V.int)) e=some o:=he
    rw [upd_same] at he'
    cases he'
    exact ⟨_,h2,rfl⟩
   ·have he':upd P.G c (.lst (ns'.map V.int)) e=some o:=he
    rw [upd_ne n] at he'
    obtain ⟨o',q1,q2⟩:=hS.sub e o he'
    exact ⟨o',S _ _ q1,q2⟩
  ·by_cases n:e=p
   ·subst n
    have he':aJ P.μ e (.jD 0) e=some o:=he
    rw [aq] at he'
    cases he'
    exact ⟨by show upd P.G c _ e=_;rw [upd_ne h3.symm];exact gp,c,ns',b,gg,h1,upd_same,h4⟩
   ·have he':aJ P.μ p (.jD 0) e=some o:=he
    rw [aX n] at he'
    obtain ⟨q1,q2⟩:=hS.mu e o he'
    have nc:e≠c:=fun z=>by rw [z,mc] at he';cases he'
    exact ⟨by show upd P.G c _ e=_;rw [upd_ne nc];exact q1,q2.sf (.upd gc) fun u h=>S _ _ h⟩
  ·obtain ⟨u,h,n⟩:=hS.sys
   exact ⟨u,S _ _ h,n⟩
  ·have nc:e≠c:=fun z=>by rw [z,hc] at e1;cases e1
   have np:e≠p:=fun z=>by rw [z,hp] at e1;cases e1
   exact ⟨S _ _ e1,by show upd P.G c _ e=_;rw [upd_ne nc];exact e2,by show aJ P.μ p _ e=_;rw [aX np];exact e3⟩
end
abbrev pe [MK] (K:Frag) (mg:Str→Option Value) (base:Heap):Prop:=∀ p∈cV K,LamX.TabB base mg p.1 p.2
section
variable [MK] {K:Frag} {x:Str} {c t:Addr}
theorem Gi (hx:x∈MK.makers) (h:PySem.W.tabIn K x=some (c,t)):(c,t)∈cV K:=List.mem_filterMap.mpr ⟨x,hx,h⟩
theorem Jw {p:Addr×Str} (h:p∈Kw K):∃ y∈MK.makers,∃ d,PySem.W.tabIn K y=some (d,p.1)∧p.2=NY y:=by
 obtain ⟨y,hy,e⟩:=List.mem_filterMap.mp h
 cases z:PySem.W.tabIn K y with
 |none=>rw [z] at e;cases e
 |some a=>
  rw [z] at e
  cases e
  exact ⟨y,hy,a.1,z,rfl⟩
end
section
variable [MK] {P:Program} {w:World} {K:Frag} {mg mb:Str→Option Value} {k:Nat} {fa a:Addr} {fd:FuncData} {x:Str} {s₁:Shared} {vs:List Value} {ns:List Int}
def rZ (T:List Addr) (G:Hp) (os_:Obj):Hp:=fun b=>if b∈T then some (.tbl #[]) else upd G sysModules (.frz os_ (.ext fun h=>h.get? sysModules=some os_)) b
theorem zd {sp:Sp} {H:Hp} {T:List Addr} (KX:K.In s₁.heap) (hns:s₁.heap.Ns mainGlobals mg) (hb:s₁.heap.Ns builtinsNs mb) (hbb:∀ x:Str,x ≠ "__name__" → mb x=bootBuiltins x) (hlim:s₁.heap.NoLimit) (hg:s₁.gens = #[]) (hr:Rm k callerA)
  (F:∀ base:Heap,K.In base→base.Ns mainGlobals mg→(∀ b o,s₁.heap.get? b=some o→H b=none→base.get? b=some o)→gG P w K mg base k fa fd [x] sp) (hbind:∀ (s:Shared) (u:Value),BindsTo s fd ⟨[u],[]⟩ [(x,u)])
  (only:∀ b u,H b=some u→(∃ o v,u=.frz o v)∨(b∈T∧u=.tbl #[])) (isT:∀ b∈T,isCodeTable s₁.heap b∧s₁.heap.get? b=some {cls:=.none,data:=.fields #[] })
  (O0:∀ b m,s₁.heap.Ns b m→b≠sysModules→H b=none) (hK:∀ b,H b≠none→K.lookup b=none) (hok:HOk P w H s₁.heap) (hsp:sp [.ref a] H (fun v _=>v=.bl true) fun _ _ _=>False) :
  codeAny (model P w) callerA (.call (.ref fa) ⟨[.ref a],[]⟩) (fun r s'=>r=.ok (.ret (.bool true))∧OldK s₁.heap s'.heap∧s'.os=s₁.os∧AllBare s'.gens) s₁:=by
 have Qq:∀ {b:Addr} {m:Str→Option Value},s₁.heap.Ns b m→b≠sysModules→(hidT s₁.heap H).Ns b m:=by
  intro b m hn ne
  have hf:=O0 b m hn ne
  obtain ⟨o,es,ep,e,d,r⟩:=hn
  exact ⟨o,es,ep,hidT_get e hf,d,r⟩
 have TU:K.In (hidT s₁.heap H):=by
  intro b o e
  refine hidT_get (KX b o e) ?_
  cases q:H b with
  |none=>rfl
  |some u=>
   rw [hK b (by rw [q];simp)] at e
   cases e
 have O2:(hidT s₁.heap H).NoLimit:=let ⟨mc,h1,h2⟩:=hlim;⟨mc,Qq h1 (by decide),h2⟩
 have e0:Env0 P w K mg (hidT s₁.heap H) callerA [] s₁ H:=
  {frames:=rfl
   mod:=⟨TU,Qq hns (by decide),⟨mb,Qq hb (by decide),hbb⟩,O2⟩
   bs:=fun b o e=>of_hidT e
   bsz:=Nat.le_of_eq (hidT_size _ _)
   funs:=trivial
   frf:=fun b z=>nomatch z
   hok:=hok
   bare:=.of_eq hg}
 refine codeAny_mono ((F _ TU (Qq hns (by decide)) (fun b o e n=>hidT_get e n)).run callerA [] s₁ H ⟨[.ref a],[]⟩ [.ref a] [.ref a] _ _ hr e0 (hbind s₁ (.ref a)) (.cons rfl .nil) hsp) ?_
 intro r s' h
 cases r with
 |error e=>exact (ID h).elim
 |ok fl=>
  cases fl with
  |next=>exact h.elim
  |brk=>exact h.elim
  |cont=>exact h.elim
  |ret u=>
   obtain ⟨v,H',os,bare,un,MI,rv,q⟩:=h
   obtain rfl:v=.bl true:=q
   obtain rfl:u=Value.bool true:=rv
   have keep:∀ b o,b∉T→s₁.heap.get? b=some o→s'.heap.get? b=some o:=by
    intro b o nT e
    cases n:H b with
    |none=>exact un.keep b o e n (fun z=>nomatch z) (fun z=>nomatch z)
    |some u=>
     rcases only b u n with ⟨ob,v,rfl⟩|⟨z,_⟩
     ·obtain ⟨e1,_⟩:=hok b _ n
      obtain ⟨e2,_⟩:=MI b _ (un.frzs b ob _ n)
      rw [e] at e1
      cases e1
      exact e2
     ·exact absurd z nT
   have more:∀ b o,b∈T→s₁.heap.get? b=some o→∃ ps:Array Value,s'.heap.get? b=some {cls:=.none,data:=.fields ps}:=by
    intro b o hT e
    cases n:H b with
    |none=>exact ⟨#[],by rw [un.keep b o e n (fun z=>nomatch z) (fun z=>nomatch z),← e];exact (isT b hT).2⟩
    |some u=>
     rcases only b u n with ⟨ob,v,rfl⟩|⟨_,rfl⟩
     ·obtain ⟨e1,_⟩:=hok b _ n
      obtain ⟨e2,_⟩:=MI b _ (un.frzs b ob _ n)
      rw [(isT b hT).2] at e1
      cases e1
      exact ⟨#[],e2⟩
     ·obtain ⟨ps,z⟩:=un.tbls b #[] n
      exact ⟨_,MI b _ z⟩
   refine ⟨rfl,⟨fun b1 o1 e1=>?_,fun b1 o1 e1=>?_⟩,os,bare⟩
   ·by_cases hT:b1∈T
    ·obtain ⟨ps,z⟩:=more b1 o1 hT e1
     obtain ⟨i1,i2⟩:=isT b1 hT
     rw [e1] at i2
     cases i2
     exact .inr (.inl ⟨i1,rfl,#[],ps,rfl,by rw [Array.empty_append];exact z⟩)
    ·exact .inl (keep b1 o1 hT e1)
   ·by_cases hT:b1∈T
    ·obtain ⟨ps,z⟩:=more b1 o1 hT e1
     exact ⟨_,z⟩
    ·exact ⟨o1,keep b1 o1 hT e1⟩
theorem Gj {sp:iP} (KX:K.In s₁.heap) (hns:s₁.heap.Ns mainGlobals mg) (hb:s₁.heap.Ns builtinsNs mb) (hbb:∀ x:Str,x ≠ "__name__" → mb x=bootBuiltins x) (hlim:s₁.heap.NoLimit) (hg:s₁.gens = #[])
  (hsys:∃ mm,s₁.heap.Ns sysModules mm) (RE:K.lookup sysModules=none)
  (hc:∀ p∈cV K,PySem.W.CodeHd s₁.heap p.1 p.2∧s₁.heap.get? p.2=some (PySem.W.tabObj #[])) (hf:Bj K=true)
  (hbm:∃ (bm:Addr) (ob:Obj),mg "__builtins__" = some (.ref bm)∧bm≠builtinsNs∧s₁.heap.get? bm=some ob∧ob.cls=.type "module" ∧ ob.dict=some builtinsNs∧ob.data=.plain)
  (ha:s₁.heap.get? a=some { cls:=.type "list",data:=.seq vs.toArray}) (hi:IntsAre vs ns) (hl:ns.length≤sizeLine) (hr:Rm k callerA)
  (F:∀ base:Heap,K.In base→base.Ns mainGlobals mg→pe K mg base→gG P w K mg base k fa fd [x] (aV K sp)) (hbind:∀ (s:Shared) (u:Value),BindsTo s fd ⟨[u],[]⟩ [(x,u)])
  (hsp:sp [.BA ns] (fun _=>none) (fun d _=>d=.bl true) fun _ _ _=>False) :
  codeAny (model P w) callerA (.call (.ref fa) ⟨[.ref a],[]⟩) (fun r s'=>r=.ok (.ret (.bool true))∧OldK s₁.heap s'.heap∧s'.os=s₁.os∧AllBare s'.gens) s₁:=by
 have rv:=vals_ints hi
 have TV:∀ b m,s₁.heap.Ns b m→b≠a:=by
  rintro b m ⟨o,es,ep,e,d,r⟩ rfl
  rw [ha] at e
  cases e
  cases d
 have TX:∀ b∈(cV K).map (·.2),∃ c,(c,b)∈cV K:=by
  intro b hb
  obtain ⟨p,hp,rfl⟩:=eX hb
  exact ⟨p.1,hp⟩
 have De:∀ b∈(cV K).map (·.2),s₁.heap.get? b=some {cls:=.none,data:=.fields #[] }:=fun b hb=>by
  obtain ⟨c,h⟩:=TX b hb
  exact (hc _ h).2
 have RG:∀ b m,s₁.heap.Ns b m→b∉(cV K).map (·.2):=by
  rintro b m ⟨o,es,ep,e,d,r⟩ z
  rw [De b z] at e
  cases e
  cases d
 have aT:a∉(cV K).map (·.2):=fun z=>by
  have q:=De a z
  rw [ha] at q
  have q':Data.seq vs.toArray _=Data.fields #[]:=congrArg Obj.data (Option.some.inj q)
  cases q'
 obtain ⟨mm,hsys⟩:=hsys
 have nA:sysModules≠a:=TV _ _ hsys
 have sT:=RG _ _ hsys
 obtain ⟨os_,_,_,hs0,TY,_⟩:=id hsys
 -- Lk table of modules is tracked,as it stands
 have VI:∀ H':Hp,ObjOk P w H' s₁.heap sysModules (.frz os_ (.ext fun h=>h.get? sysModules=some os_)):=fun H'=>⟨hs0,hs0,⟨_,hs0⟩,fun h1 h2 e q=>q _ e⟩
 have fin:∀ (G:Hp),(∀ b u,G b=some u→b=a∧∃ o,u=.frz o (.lst (ns.map V.int)))→(G a≠none→K.lookup a=none)→(∀ H',∀ u,G a=some u→ObjOk P w H' s₁.heap a u)→SqL K G a (ns.map V.int)→
   codeAny (model P w) callerA (.call (.ref fa) ⟨[.ref a],[]⟩) (fun r s'=>r=.ok (.ret (.bool true))∧OldK s₁.heap s'.heap∧s'.os=s₁.os∧AllBare s'.gens) s₁:=by
  intro G gA gK gO hq
  have gs:G sysModules=none:=by
   cases e:G sysModules with
   |none=>rfl
   |some u=>exact absurd (gA _ _ e).1 nA
  have Qs:∀ b u,rZ ((cV K).map (·.2)) G os_ b=some u→(b∈(cV K).map (·.2)∧u=.tbl #[])∨(b∉(cV K).map (·.2)∧((b=sysModules∧u=.frz os_ (.ext fun h=>h.get? sysModules=some os_))∨(b≠sysModules∧G b=some u))):=by
   intro b u e
   unfold rZ at e
   by_cases h0:b∈(cV K).map (·.2)
   ·rw [if_pos h0] at e
    cases e
    exact .inl ⟨h0,rfl⟩
   rw [if_neg h0] at e
   refine .inr ⟨h0,?_⟩
   by_cases h:b=sysModules
   ·subst h
    rw [upd_same] at e
    cases e
    exact .inl ⟨rfl,rfl⟩
   ·rw [upd_ne h] at e
    exact .inr ⟨h,e⟩
  have free:∀ b,b∉(cV K).map (·.2)→b≠sysModules→b≠a→rZ ((cV K).map (·.2)) G os_ b=none:=by
   intro b h1 h2 h3
   cases e:rZ ((cV K).map (·.2)) G os_ b with
   |none=>rfl
   |some u=>
    rcases Qs b u e with ⟨z,_⟩|⟨_,⟨z,_⟩|⟨_,z⟩⟩
    ·exact absurd z h1
    ·exact absurd z h2
    ·exact absurd (gA _ _ z).1 h3
  refine zd (H:=rZ ((cV K).map (·.2)) G os_) (T:=(cV K).map (·.2)) KX hns hb hbb hlim hg hr (fun base h1 h2 h3=>F base h1 h2 fun p hp=>?_) hbind ?_ ?_ ?_ ?_ ?_ ?_
  ·obtain ⟨C,hT⟩:=hc p hp
   have pT:p.2∈(cV K).map (·.2):=List.mem_map.mpr ⟨p,hp,rfl⟩
   refine ⟨?_,?_,fun z=>RG _ _ hns (by rw [z];exact pT)⟩
   ·obtain ⟨o,us,file,tf,flags,tg,VJ,text,tt,e1,r1,r2,r3,r⟩:=C
    refine ⟨o,us,file,tf,flags,tg,VJ,text,tt,h3 _ _ e1 (free _ (fun z=>?_) (fun z=>?_) (fun z=>?_)),r1,r2,r3,r⟩
    ·rw [De _ z] at e1
     cases e1
     cases r1
    ·rw [z,hs0] at e1
     cases e1
     rw [TY] at r2
     cases r2
    ·rw [z,ha] at e1
     cases e1
     simp at r1
   ·obtain ⟨bm,ob,b1,b2,b3,b4,b5,b6⟩:=hbm
    have nG:bm≠mainGlobals:=fun q=>by
     obtain ⟨o,es,ep,e,hd,_⟩:=hns
     rw [q,e] at b3
     cases b3
     rw [hd] at b6
     cases b6
    have nP:bm≠p.2:=fun q=>by
     rw [q,hT] at b3
     cases b3
     cases b6
    refine ⟨bm,ob,b1,b2,nG,nP,h3 _ _ b3 (free _ (fun z=>?_) (fun z=>?_) (fun z=>?_)),b4,b5,b6⟩
    ·rw [De _ z] at b3
     cases b3
     cases b6
    ·rw [z,hs0] at b3
     cases b3
     rw [TY] at b6
     cases b6
    ·rw [z,ha] at b3
     cases b3
     simp at b4
  ·intro b u e
   rcases Qs b u e with h |⟨_,⟨_,rfl⟩|⟨_,e⟩⟩
   ·exact .inr h
   ·exact .inl ⟨_,_,rfl⟩
   ·obtain ⟨_,o,rfl⟩:=gA b u e
    exact .inl ⟨_,_,rfl⟩
  ·intro b hb
   obtain ⟨c,h⟩:=TX b hb
   exact ⟨((hc _ h).1.tab (hc _ h).2).isCodeTable,De b hb⟩
  ·intro b m hn ne
   exact free b (RG b m hn) ne (TV b m hn)
  ·intro b e
   by_cases h0:b∈(cV K).map (·.2)
   ·obtain ⟨p,hp,rfl⟩:=eX h0
    have:=List.all_eq_true.mp hf p hp
    simpa using this
   ·cases q:rZ ((cV K).map (·.2)) G os_ b with
    |none=>exact absurd q e
    |some u=>
     rcases Qs b u q with ⟨z,_⟩|⟨_,⟨z,_⟩|⟨_,z⟩⟩
     ·exact absurd z h0
     ·rw [z];exact RE
     ·have:=(gA _ _ z).1
      subst this
      exact gK (by rw [z];simp)
  ·intro b u e
   rcases Qs b u e with ⟨h,rfl⟩|⟨_,⟨rfl,rfl⟩|⟨_,e⟩⟩
   ·exact De b h
   ·exact VI _
   ·have:=(gA _ _ e).1
    subst this
    exact gO _ u e
  ·have sub:SF G (rZ ((cV K).map (·.2)) G os_):=fun b u e=>by
    obtain ⟨rfl,_⟩:=gA b u e
    refine ⟨u,?_,rfl⟩
    unfold rZ
    rw [if_neg aT,upd_ne nA.symm]
    exact e
   refine ⟨⟨G,rZ ((cV K).map (·.2)) G os_,fun _=>none⟩,_,_,_,rfl,⟨sub,(fun _ _ z=>nomatch z),⟨.frz os_ (.ext fun h=>h.get? sysModules=some os_),by show rZ _ _ _ sysModules=_;unfold rZ;rw [if_neg sT,upd_same],rfl⟩,fun p hp=>?_,fun b u e=>?_⟩,.cons (.BA hq nA.symm) .nil,hsp,?_,fun _ _ _ _ _ _ z=>z.elim⟩
   ·obtain ⟨y,hy,d,h2,_⟩:=Jw hp
    refine LamX.TabS.nil ?_
    show rZ _ _ _ p.1=_
    unfold rZ
    rw [if_pos (List.mem_map.mpr ⟨_,Gi hy h2,rfl⟩)]
   ·obtain ⟨_,o,rfl⟩:=gA b u e
    rfl
   ·rintro v d P' s r rfl
    exact ny r
 cases hk:K.lookup a with
 |some o=>
  have e:=KX a o hk
  rw [ha] at e
  cases e
  exact fin (fun _=>none) (fun _ _ z=>nomatch z) (fun z=>absurd rfl z) (fun _ _ z=>nomatch z) (.inr ⟨_,vs.toArray,_,hk,rfl,rfl,rfl,by rw [List.size_toArray,hi.length];exact hl,by simpa using rv⟩)
 |none=>
  refine fin (upd (fun _=>none) a (.frz { cls:=.type "list",data:=.seq vs.toArray} (.lst (ns.map V.int)))) (fun b u e=>?_) (fun _=>hk) (fun H' u e=>?_) (.inl (.inr ⟨_,upd_same⟩))
  ·by_cases h:b=a
   ·subst h
    rw [upd_same] at e
    cases e
    exact ⟨rfl,_,rfl⟩
   ·rw [upd_ne h] at e
    cases e
  ·rw [upd_same] at e
   cases e
   exact ⟨ha,by rw [List.length_map];exact hl,vs,_,rv,ha⟩
where
 Jx {G:Hp}:∀ ns:List Int,dh K G (ns.map V.int) (ns.map Dt.int)
  |[]=>.nil
  |n::ns=>.cons (.int n) (Jx ns)
end
def O3 [MK] (q:Program):Bool:=MK.makers.all fun x=>((recsOf q).find? fun e=>e.name == x).isSome
end HS
namespace HS
open PySem PySem.Spec PyProof.Rows L2
section
variable [MK] {K:Frag} {B:Pt} {μ:Mu} {v:Dt} {C C':Addr} {q:DQ}
def Qt:Dt→String
 |.non => "NoneType"
 |.bl _ => "bool"
 |.int _ => "int"
 |.str _ => "str"
 |.lst _ => "list"
 |.tup _ => "tuple"
 |.dct _ => "dict"
 |_ => ""
def isT (n:String) (v:Dt):Bool:=Qt v == n||(n == "int" && Qt v == "bool")
inductive r7 (K:Frag) (μ:Mu):Dt→Prop
 |non:r7 K μ .non
 |bl (b:Bool):r7 K μ (.bl b)
 |int (i:Int):r7 K μ (.int i)
 |str (x:Str):r7 K μ (.str x)
 |lst (ds:List Dt):r7 K μ (.lst ds)
 |tup (ds:List Dt):r7 K μ (.tup ds)
 |dct (ds:List (Key×Dt)):r7 K μ (.dct ds)
 |own {v:Dt} {C:Addr} (o:pB K C) (h:yU C μ v):r7 K μ v
theorem AL (h:yU C μ v):Qt v = "" := by
 obtain ⟨fs,e⟩:=h
 cases v with
 |ins C fs=>rfl
 |raw w=>rfl
 |_=>cases e
theorem BP {n:String} (hn:n∈iw) (k:r7 K μ v) (h:q (.bl (isT n v)) μ):Ic K [v,.raw (.ty n)] μ q:=by
 have hn':n∈["str", "int", "bool", "list", "tuple", "dict"]:=by
  unfold iw at hn
  simp only [List.mem_cons,List.mem_nil_iff,or_false] at hn ⊢
  rcases hn with h |h |h |h |h |h <;> simp [h]
 cases k with
 |non=>exact ⟨⟨_,_,_,_,_,rfl,.ty n,.py .non,kit_ty K hn' .none,h⟩⟩
 |bl b=>exact ⟨⟨_,_,_,_,_,rfl,.ty n,.py (.bl b),kit_ty K hn' (.bool b),h⟩⟩
 |int i=>exact ⟨⟨_,_,_,_,_,rfl,.ty n,.py (.int i),kit_ty K hn' (.int i),h⟩⟩
 |str x=>exact ⟨⟨_,_,_,_,_,rfl,.ty n,.py (.str x),kit_ty K hn' (.str x),h⟩⟩
 |lst ds=>exact ⟨⟨_,_,_,_,_,rfl,.ty n,.lst ds,kit_ty K hn' (.list []),h⟩⟩
 |tup ds=>exact ⟨⟨_,_,_,_,_,rfl,.ty n,.tup ds,kit_ty K hn' (.tuple []),h⟩⟩
 |dct ds=>exact ⟨⟨_,_,_,_,_,rfl,.ty n,.dct ds,kit_ty K hn' (.dict []),h⟩⟩
 |own o hc=>
  refine ⟨⟨_,_,_,_,_,rfl,.ty n,.own o hc,o.no hn,?_⟩⟩
  have e:isT n v=false:=by
   unfold isT
   rw [AL hc]
   unfold iw at hn
   simp only [List.mem_cons,List.mem_nil_iff,or_false] at hn
   rcases hn with rfl |rfl |rfl |rfl |rfl |rfl <;> rfl
  rw [e] at h
  exact h
theorem uG (o:pB K C) (h:yU C μ v) (q1:q (.bl true) μ):Ic K [v,.raw (.ref C)] μ q:=⟨⟨_,_,_,_,_,rfl,.own C,.own o h,yQ K C,q1⟩⟩
def noObj:Dt→Bool
 |.ins _ _=>false
 |.exc _ _=>false
 |.raw _=>false
 |.yS _=>false
 |.BA _=>false
 |.mix _=>false
 |_=>true
theorem wk (o:pB K C) (h:noObj v=true) (q1:q (.bl false) μ):Ic K [v,.raw (.ref C)] μ q:=by
 cases v with
 |non=>exact ⟨⟨_,_,_,_,_,rfl,.own C,.py .non,o.data .none,q1⟩⟩
 |bl b=>exact ⟨⟨_,_,_,_,_,rfl,.own C,.py (.bl b),o.data (.bool b),q1⟩⟩
 |int i=>exact ⟨⟨_,_,_,_,_,rfl,.own C,.py (.int i),o.data (.int i),q1⟩⟩
 |str x=>exact ⟨⟨_,_,_,_,_,rfl,.own C,.py (.str x),o.data (.str x),q1⟩⟩
 |lst ds=>exact ⟨⟨_,_,_,_,_,rfl,.own C,.lst ds,o.data (.list []),q1⟩⟩
 |tup ds=>exact ⟨⟨_,_,_,_,_,rfl,.own C,.tup ds,o.data (.tuple []),q1⟩⟩
 |dct ds=>exact ⟨⟨_,_,_,_,_,rfl,.own C,.dct ds,o.data (.dict []),q1⟩⟩
 |_=>cases h
theorem r7.Gk (h:noObj v=true):r7 K μ v:=by
 cases v with
 |non=>exact .non
 |bl b=>exact .bl b
 |int i=>exact .int i
 |str x=>exact .str x
 |lst ds=>exact .lst ds
 |tup ds=>exact .tup ds
 |dct ds=>exact .dct ds
 |_=>cases h
theorem MJ {x y:Dt} {c:Bool} (e:Ox x y=some c) (h:q (.bl c) μ):Oz x y μ q:=⟨⟨c,e,h⟩⟩
theorem AM {x y:Dt} {c:Bool} (e:Ox x y=some c) (h:q (.bl (!c)) μ):Ja x y μ q:=⟨⟨c,e,h⟩⟩
theorem ze {r r':R2} {d d':DR} {ta tb tc:TE} {t u w:DE} (hr:xD K B r d) (hr':xD K B r' d') (a:cG K B ta t) (b:cG K B tb u) (c:cG K B tc w):cG K B (tChain r r' ta tb tc) (FU d d' t u w):=fun σ P ρ Q q hB hE h k=>
 a σ P ρ _ _ hB hE h fun v x P1 s1 r1 h1=>b σ P1 ρ _ _ (hB.trans s1) (hE.sf s1.sf) h1 fun w' y P2 s2 r2 h2=>
  hr v w' x y P2 _ _ (hB.trans (s1.trans s2)) (r1.sf s2.sf) r2 h2 fun z dz P3 s3 r3 ⟨kk,e,h3⟩=>by
   subst e
   refine ⟨kk,ny r3,?_⟩
   have vF:=s1.trans (s2.trans s3)
   cases kk with
   |false=>exact k _ _ P3 vF (.bl _) h3
   |true=>
    refine c σ P3 ρ _ _ (hB.trans vF) (hE.sf vF.sf) h3 fun v4 d4 P4 s4 r4 h4=>?_
    refine hr' w' v4 y d4 P4 Q _ (hB.trans (vF.trans s4)) (r2.sf (s3.trans s4).sf) r4 h4 fun v5 d5 P5 s5 r5 ⟨k',e,h5⟩=>?_
    subst e
    exact k v5 _ P5 (vF.trans (s4.trans s5)) r5 h5
theorem Gn:cG K B (fun _ _ _=>False) (fun _ _ _=>False):=fun _ _ _ _ _ _ _ h _=>h.elim
theorem uH {g:DG} {tb:DS} {d:gX} {ds:List Dt} {ρ:Ev} (I:Nat→Ev→Mu→Prop) (h0:I 0 ρ μ) (step:∀ i x ρ μ,I i ρ μ→ds[i]? = some x→g x ρ μ fun ρ2 μ2=>tb {d with nx:=I (i+1),ct:=I (i+1),bk:=d.nx} ρ2 μ2) (fin:∀ ρ μ,I ds.length ρ μ→d.nx ρ μ) :
  NQ g tb d ds ρ μ:=⟨⟨I,h0,step,fin⟩⟩
theorem Gp {g:DG} {tt:DT} {te:DE} {ρ:Ev} {ds:List Dt} (I:Nat→List Dt→Mu→Prop) (h0:I 0 [] μ) (step:∀ i x acc μ,I i acc μ→ds[i]? = some x→g x ρ μ fun ρ2 μ2=>tt ρ2 μ2 fun b μ3=>if b=true then te ρ2 μ3 fun y μ4=>I (i+1) (acc++[y]) μ4 else I (i+1) acc μ3)
  (fin:∀ acc μ,I ds.length acc μ→q (.lst acc) μ):NR g tt te ρ q ds μ:=⟨⟨I,h0,step,fin⟩⟩
theorem Gq {g:DG} {te:DE} {ρ:Ev} {ds:List Dt} (f:Dt→Dt) (step:∀ x∈ds,∀ q':DQ,q' (f x) μ→g x ρ μ fun ρ2 μ2=>te ρ2 μ2 q') (fin:q (.lst (ds.map f)) μ):NR g AK te ρ q ds μ:=by
 refine ⟨⟨fun i acc μ'=>μ'=μ∧acc=(ds.take i).map f,⟨rfl,rfl⟩,?_,?_⟩⟩
 ·rintro i x acc μ' ⟨rfl,rfl⟩ hx
  have hi:i<ds.length:=(List.getElem?_eq_some_iff.mp hx).1
  have m:x∈ds:=List.mem_of_getElem? hx
  have e:(ds.take (i+1)).map f=(ds.take i).map f++[f x]:=by
   rw [List.take_succ,hx]
   simp
  exact step x m _ ⟨rfl,e.symm⟩
 ·rintro acc μ' ⟨rfl,rfl⟩
  rw [List.take_length]
  exact fin
end
end HS
namespace HS
open PySem PySem.Spec PyProof.Rows L2
theorem Df [MK] {K:Frag} {N:List Str} {P:Pt} {vs:List V} {ds:List Dt} {ts:TS} {Q:VK} {q:DQ} (hS:Sat K P) (hv:dh K P.G vs ds) (hq:∀ v d P',Step K P P'→Rp K P'.G v d→q d P'.μ→Q v P'.H)
  (h:∃ t:DS,nM K P ts t∧t {nx:=fun _ μ'=>q .non μ',rt:=q,bk:=fun _ _=>False,ct:=fun _ _=>False} (uu N ds) P.μ):ts {nx:=fun _ H'=>Q .non H',rt:=Q} (L2.start N vs) P.H:=by
 obtain ⟨t,li,h⟩:=h
 exact Gf li hS hv hq h
end HS
namespace HS
open PySem PySem.Spec PyProof.Rows L2
section
variable [MK] {K:Frag} {B:Pt} {W:WX} {w:XQ} {sp:iP}
theorem BQ {G:Hp}:∀ {vs:List V} {zs:List Str},dh K G vs (zs.map Dt.str)→vs=zs.map V.str
 |[],[],_=>rfl
 |_::_,[],h=>by cases h
 |_,b::bs,h=>by
  cases h with
  |cons h t=>
   obtain rfl:=uw h
   rw [BQ t]
   rfl
end
end HS
namespace HS
open PySem PySem.Spec PyProof.Rows L2
variable [MK]
def Ve (t:DE) (ρ:Ev) (μ:Mu) (d:Dt):Prop:=∀ q:DQ,q d μ→t ρ μ q
def Va (t:DA) (ρ:Ev) (μ:Mu) (ds:List Dt):Prop:=∀ q:List Dt→Mu→Prop,q ds μ→t ρ μ q
def Vt (t:DT) (ρ:Ev) (μ:Mu) (b:Bool):Prop:=∀ q:Bool→Mu→Prop,q b μ→t ρ μ q
section
variable {ρ:Ev} {μ:Mu} {t u v:DE} {ta tb:DA} {c c':DT} {d x y:Dt} {ds es:List Dt} {a b:Bool} {i j:Int} {E:gX} {s r:DS}
theorem ak {n:Nat} (h:ρ[n]? = some (some d)):Ve (kX n) ρ μ d:=fun q k=>⟨d,h,k⟩
theorem aF:Ve (dC d) ρ μ d:=fun q k=>k
theorem aA:Va fk ρ μ []:=fun q k=>k
theorem aj (h:Ve t ρ μ x) (g:Va ta ρ μ ds):Va (bD t ta) ρ μ (x::ds):=fun q k=>h _ (g _ k)
theorem j8 (h:Va ta ρ μ ds) (l:ds.length≤sizeLine:=by decide):Ve (Mj ta) ρ μ (.tup ds):=fun q k=>h _ ⟨l,k⟩
theorem eS (h:Va ta ρ μ ds) (l:ds.length≤sizeLine:=by decide):Ve (Ml ta) ρ μ (.lst ds):=fun q k=>h _ ⟨l,k⟩
theorem fK (h:Ve t ρ μ (.bl b)):Vt (dB t) ρ μ b:=fun q k=>h _ ⟨b,rfl,k⟩
theorem dW (h:Vt c ρ μ b):Vt (Mp c) ρ μ (!b):=fun q k=>h _ k
theorem BR (h:Vt c ρ μ a) (g:a=false→Vt c' ρ μ b):Vt (Rn c c') ρ μ (a||b):=fun q k=>h _ (by
 cases a with
 |true=>exact k
 |false=>exact g rfl _ k)
theorem AN (h:Vt c ρ μ false) (g:Vt c' ρ μ false):Vt (Rn c c') ρ μ false:=BR h fun _=>g
theorem aY (h:Vt c ρ μ a) (e:a=b):Vt c ρ μ b:=e▸h
theorem dN (h:Ve t ρ μ x) (e:x=y):Ve t ρ μ y:=e▸h
theorem Gr (h:Ve t ρ μ (.int i)) (g:Ve u ρ μ (.int j)):Ve (KW Ja t u) ρ μ (.bl (!decide (i=j))):=fun q k=>h _ (g _ (AM rfl k))
theorem uI {z w:Str} (h:Ve t ρ μ (.str z)) (g:Ve u ρ μ (.str w)):Ve (KW Ja t u) ρ μ (.bl (!decide (z=w))):=fun q k=>h _ (g _ (AM rfl k))
theorem wm {f:Int→Int→Dt} (h:Ve t ρ μ (.int i)) (g:Ve u ρ μ (.int j)):Ve (KW (I9 f) t u) ρ μ (f i j):=fun q k=>h _ (g _ ⟨i,j,rfl,rfl,k⟩)
theorem qR {C:Int→Int→Prop} {f:Int→Int→Dt} (h:Ve t ρ μ (.int i)) (g:Ve u ρ μ (.int j)) (z:C i j):Ve (KW (dI C f) t u) ρ μ (f i j):=fun q k=>h _ (g _ ⟨i,j,rfl,rfl,z,k⟩)
theorem fY (h:Vt c ρ μ false) (k:r E ρ μ):vH (yW c s yV) r E ρ μ:=h _ (by rw [if_neg (by decide)];exact k)
theorem xP {s':DS} (h:Vt c ρ μ false) (k:s' E ρ μ):yW c s s' E ρ μ:=h _ (by rw [if_neg (by decide)];exact k)
theorem ML {s':DS} (h:Vt c ρ μ true) (k:s E ρ μ):yW c s s' E ρ μ:=h _ (by rw [if_pos rfl];exact k)
theorem O4 (h:Vt c ρ μ b) (k1:b=true→s {E with nx:=r E} ρ μ) (k2:b=false→r E ρ μ):vH (yW c s yV) r E ρ μ:=h _ (by
 cases b with
 |true=>rw [if_pos rfl];exact k1 rfl
 |false=>rw [if_neg (by decide)];exact k2 rfl)
theorem qu {n:Nat} (h:Ve t ρ μ x) (k:r E (ρ.set n (some x)) μ):vH (F6 t (iG n)) r E ρ μ:=h _ k
theorem Gu {n:Nat} (h:Ve t ρ μ x) (k:E.nx (ρ.set n (some x)) μ):F6 t (iG n) E ρ μ:=h _ k
theorem jf (h:Ve t ρ μ x) (k:E.rt x μ):F3 t E ρ μ:=h _ k
theorem Gv {n m:Nat} (h:Va ta ρ μ [x,y]) (k:r E ((ρ.set n (some x)).set m (some y)) μ):vH (Mz n m ta) r E ρ μ:=h _ ⟨x,y,rfl,k⟩
end
end HS
namespace HS
open PySem PySem.Spec PyProof.Rows L2
variable [MK]
def qD (t b:Int):Int×Int:=
 if b<0 then (t.fdiv (-(Int.gcd t b:Int)),b.fdiv (-(Int.gcd t b:Int))) else (t.fdiv (Int.gcd t b:Int),b.fdiv (Int.gcd t b:Int))
theorem xQ {t b:Int} (h:b≠0):0<(Int.gcd t b:Int):=by
 have:0<Int.gcd t b:=Int.gcd_pos_of_ne_zero_right t h
 omega
theorem MM {t b:Int} (h:b≠0):(Int.gcd t b:Int).natAbs≤b.natAbs:=by
 have:Int.gcd t b≤b.natAbs:=Nat.le_of_dvd (by omega) (Nat.gcd_dvd_right t.natAbs b.natAbs)
 omega
theorem MN {m n:Nat} {t b:Int} (ht:Sz m t) (hb:Sz n b):Sz m (qD t b).1∧Sz n (qD t b).2:=by
 unfold qD
 split
 ·exact ⟨ht.fdiv _,hb.fdiv _⟩
 ·exact ⟨ht.fdiv _,hb.fdiv _⟩
theorem wo (t b:Int):(Int.gcd t b:Int) ∣ b:=Int.gcd_dvd_right t b
theorem oG {G c:Int} (h:0<G):(G*c).fdiv G=c∧(G*c).fdiv (-G) = -c:=by
 refine ⟨Int.mul_fdiv_cancel_left _ (by omega),?_⟩
 rw [show G*c = -G*(-c) from (Int.neg_mul_neg G c).symm]
 exact Int.mul_fdiv_cancel_left _ (by omega)
theorem Jy {t b:Int} (h:b≠0):0<(qD t b).2:=by
 obtain ⟨c,hc⟩:=wo t b
 have g:=xQ (t:=t) h
 have e:(qD t b).2=if b<0 then b.fdiv (-(Int.gcd t b:Int)) else b.fdiv (Int.gcd t b:Int):=by
  unfold qD
  split <;> rfl
 rw [e]
 generalize (Int.gcd t b:Int)=G at hc g
 subst hc
 obtain ⟨k1,k2⟩:=oG (c:=c) g
 rw [k1,k2]
 split
 ·rename_i hb
  have:¬ 0≤c:=fun q=>by have:=Int.mul_nonneg (Int.le_of_lt g) q;omega
  omega
 ·rename_i hb
  have:¬ c≤0:=fun q=>by
   have:=Int.mul_nonpos_of_nonneg_of_nonpos (Int.le_of_lt g) q
   omega
  omega
def O5 (t b u d:Int):Int×Int:=qD (t*d+u*b) (b*d)
def O6 (t b u d:Int):Int×Int:=qD (t*u) (b*d)
theorem Jz {x y:Str} (h:x.cps.toList=y.cps.toList):x=y:=by
 cases x;cases y
 congr 1
 exact Array.toList_inj.mp h
def Qu (t b:Int):Prop:=0<b∧Int.gcd t b=1
theorem BS {t b:Int} (h:b≠0):∃ G e c:Int,0<G∧t=G*e∧b=G*c∧Int.gcd e c=1∧qD t b=if b<0 then (-e,-c) else (e,c):=by
 have g:=xQ (t:=t) h
 obtain ⟨c,hc⟩:=wo t b
 obtain ⟨e,he⟩:(Int.gcd t b:Int) ∣ t:=Int.gcd_dvd_left t b
 have hn:0<Int.gcd t b:=by omega
 have hg:Int.gcd e c=1:=by
  have q:Int.gcd t b=Int.gcd t b*Int.gcd e c:=by
   have h1:Int.gcd t b=Int.gcd (Int.gcd t b*e) (Int.gcd t b*c):=by rw [← he,← hc]
   rw [Int.gcd_mul_left] at h1
   simpa using h1
  have q2:Int.gcd t b*1=Int.gcd t b*Int.gcd e c:=by rw [Nat.mul_one];exact q
  exact (Nat.eq_of_mul_eq_mul_left hn q2).symm
 refine ⟨_,e,c,g,he,hc,hg,?_⟩
 unfold qD
 generalize (Int.gcd t b:Int)=G at hc he g
 split
 ·rw [he,hc,(oG g).2,(oG g).2]
 ·rw [he,hc,(oG g).1,(oG g).1]
theorem JA {t b:Int} (h:b≠0):Qu (qD t b).1 (qD t b).2:=by
 refine ⟨Jy h,?_⟩
 obtain ⟨G,e,c,g,he,hc,hg,e1⟩:=BS (t:=t) h
 rw [e1]
 split
 ·show Int.gcd (-e) (-c)=1
  rw [Int.gcd_neg,Int.neg_gcd,hg]
 ·exact hg
theorem Dg {t b:Int} (h:b≠0):(qD t b).1*b=t*(qD t b).2:=by
 obtain ⟨G,e,c,g,he,hc,hg,e1⟩:=BS (t:=t) h
 rw [e1]
 split <;> grind
theorem AO {t b t' b':Int} (h:Qu t b) (h':Qu t' b') (e:t*b'=t'*b):t=t'∧b=b':=by
 have e1:t.natAbs*b'.natAbs=t'.natAbs*b.natAbs:=by rw [← Int.natAbs_mul,← Int.natAbs_mul,e]
 have c:Nat.Coprime b.natAbs t.natAbs:=by
  show Nat.gcd _ _=1
  rw [Nat.gcd_comm]
  exact h.2
 have c':Nat.Coprime b'.natAbs t'.natAbs:=by
  show Nat.gcd _ _=1
  rw [Nat.gcd_comm]
  exact h'.2
 have d1:b.natAbs ∣ b'.natAbs:=c.dvd_of_dvd_mul_left ⟨t'.natAbs,by rw [e1,Nat.mul_comm]⟩
 have d2:b'.natAbs ∣ b.natAbs:=c'.dvd_of_dvd_mul_left ⟨t.natAbs,by rw [← e1,Nat.mul_comm]⟩
 have hb:=Nat.dvd_antisymm d1 d2
 have p:=h.1
 have p':=h'.1
 have eb:b=b':=by omega
 subst eb
 exact ⟨Int.eq_of_mul_eq_mul_right (by omega) e,rfl⟩
theorem BU (q:Rat):Qu q.num (q.den:Int):=⟨by have:=q.den_pos;omega,q.reduced⟩
theorem den_pos (q:Rat):0<(q.den:Int):=(BU q).1
theorem MP (q:Rat):((q.den:Int):Rat)≠0:=by
 intro z
 have:(q.den:Int)=0:=by exact_mod_cast z
 have:=den_pos q
 omega
theorem jg (q:Rat):(q.num:Rat)=q*((q.den:Int):Rat):=by
 have h:(q.num:Rat) / ((q.den:Int):Rat)=q:=by rw [← Rat.divInt_eq_div];exact Rat.num_divInt_den q
 have d:=MP q
 grind
theorem qS {t b:Int} (h:b≠0) {q:Rat} (hq:(t:Rat)=q*(b:Rat)):qD t b=(q.num,(q.den:Int)):=by
 have r:=Dg (t:=t) h
 have l:=JA (t:=t) h
 have hb:(b:Rat)≠0:=by exact_mod_cast h
 have r':((qD t b).1:Rat)*(b:Rat)=(t:Rat)*((qD t b).2:Rat):=by exact_mod_cast r
 have n:=jg q
 have e:((qD t b).1:Rat)*((q.den:Int):Rat)=(q.num:Rat)*((qD t b).2:Rat):=by
  have:((qD t b).1:Rat)=q*((qD t b).2:Rat):=by
   have:(b:Rat)*((qD t b).1:Rat)=(b:Rat)*(q*((qD t b).2:Rat)):=by grind
   grind
  grind
 have e':(qD t b).1*(q.den:Int)=q.num*(qD t b).2:=by exact_mod_cast e
 obtain ⟨e1,e2⟩:=AO l (BU q) e'
 exact Prod.ext e1 e2
theorem JB (q r:Rat):O5 q.num q.den r.num r.den=((q+r).num,((q+r).den:Int)):=by
 unfold O5
 refine qS (by have:=Int.mul_pos (den_pos q) (den_pos r);omega) ?_
 have a:=jg q
 have b:=jg r
 simp only [Rat.intCast_add,Rat.intCast_sub,Rat.intCast_mul,Rat.intCast_neg]
 grind
theorem JC (q r:Rat):O6 q.num q.den r.num r.den=((q*r).num,((q*r).den:Int)):=by
 unfold O6
 refine qS (by have:=Int.mul_pos (den_pos q) (den_pos r);omega) ?_
 have a:=jg q
 have b:=jg r
 simp only [Rat.intCast_add,Rat.intCast_sub,Rat.intCast_mul,Rat.intCast_neg]
 grind
theorem JD (q:Rat):qD (-q.num) q.den=((-q).num,((-q).den:Int)):=by
 refine qS (by have:=den_pos q;omega) ?_
 have a:=jg q
 simp only [Rat.intCast_add,Rat.intCast_sub,Rat.intCast_mul,Rat.intCast_neg]
 grind
structure Zr (n:Nat) (q:Rat):Prop where
 num:Sz n q.num
 den:Sz n (q.den:Int)
section
variable {q r:Rat} {m n:Nat}
theorem Zr.mono (h:Zr m q) (l:m≤n):Zr n q:=⟨h.num.mono l,h.den.mono l⟩
theorem Zr.xR {t b:Int} (h:qD t b=(q.num,(q.den:Int))) (ht:Sz n t) (hb:Sz n b):Zr n q:=by
 have z:=MN ht hb
 rw [h] at z
 exact ⟨z.1,z.2⟩
theorem Zr.add (hq:Zr m q) (hr:Zr n r):Zr (m+n+1) (q+r):=
 .xR (JB q r) (((hq.num.mul hr.den).add (hr.num.mul hq.den)).mono (by omega)) ((hq.den.mul hr.den).mono (by omega))
theorem Zr.mul (hq:Zr m q) (hr:Zr n r):Zr (m+n) (q*r):=.xR (JC q r) (hq.num.mul hr.num) (hq.den.mul hr.den)
theorem Zr.neg (hq:Zr m q):Zr m (-q):=.xR (JD q) hq.num.neg hq.den
theorem Zr.int {i:Int} (h:Sz n i) (hn:0<n):Zr n (i:Rat):=⟨by rw [Rat.num_intCast];exact h,by rw [Rat.den_intCast];exact Sz.mono (m:=1) (by unfold Sz;decide) hn⟩
end
def j9 (qs:List Rat):Rat:=qs.foldl (· + ·) 0
def jh:Dt→Bool
 |.int _=>true
 |_=>false
def aD (C:Addr) (t b:Int):Dt:=.ins C [("top",.int t),("bottom",.int b)]
def aQ (C:Addr) (q:Rat):Dt:=aD C q.num q.den
def nQ (C:Addr) (x:Dt) (r:Rat):Prop:=(∃ i:Int,x=.int i∧r=i)∨x=aQ C r
def VL (t b:Int):Dt:=.tup [.int t,.int b]
def TZ (q:Rat):Dt:=VL q.num q.den
section
variable {K:Frag} {C:Addr} {μ:Mu} {x y:Dt} {q r:Rat} {m n:Nat}
theorem kN:yU C μ (aQ C q):=⟨_,rfl⟩
theorem nQ.or (h:nQ C x r):yU C μ x∨∃ j,x=.int j:=h.elim (fun ⟨i,h,_⟩=>.inr ⟨i,h⟩) fun h=>.inl (by rw [h];exact kN)
theorem nQ.cd (h:nQ C x r):Ji C μ x:=h.elim (fun ⟨i,h,_⟩=>.inr ⟨.int i,by rw [h];exact .int i⟩) fun h=>.inl (by rw [h];exact kN)
theorem MQ (i:Int):nQ C (.int i) (i:Rat):=.inl ⟨i,rfl,rfl⟩
theorem vI:nQ C (aQ C r) r:=.inr rfl
theorem Dh (i:Int):((i:Rat).num=i)∧(((i:Rat).den:Nat):Int)=1:=⟨by simp,by simp⟩
end
def O7:iP:=fun ds μ q _=>∃ a b:Int,ds=[.int a,.int b]∧0≤a∧0≤b∧q (.int (Int.gcd a b)) μ
def JE (K:Frag):iP:=fun ds μ q _=>∃ v,ds=[v]∧r7 K μ v∧q (.bl (jh v)) μ
def Gx (K:Frag) (C:Addr):iP:=fun ds μ q _=>∃ v r,ds=[v]∧nQ C v r∧q (TZ r) μ
structure BV (K:Frag) (C CA CN:Addr) (ds:List Dt) (μ:Mu) (q:DQ) (x:Addr→List (Str×Dt)→Mu→Prop):Prop where
 ex:∃ (a:Addr) (v1 v2:Dt),ds=[.raw (.ref a),v1,v2]∧μ a=some (.ins C [])∧r7 K μ v1∧r7 K μ v2∧(∀ b,v2=.int b→Sz 7900 b)∧
 (∀ t b,v1=.int t→v2=.int b→b≠0→∀ r:Rat,(t:Rat)=r*(b:Rat)→q .non (aJ μ a (.ins C [("top",.int r.num),("bottom",.int r.den)])))∧
 (jh v1=true→v2=.int 0→x CN [] μ)∧
 (jh v1=false→x CA [("value",v1)] μ)∧
 (jh v1=true→jh v2=false→x CA [("value",v2)] μ)
def qT (K:Frag) (C:Addr):iP:=fun ds μ q _=>∃ v,ds=[v]∧((yU C μ v∧q (.bl true) μ)∨(noObj v=true∧q (.bl (jh v)) μ))
def RH (K:Frag) (C CA:Addr):iP:=fun ds μ q x=>∃ v,ds=[v]∧((∃ r,nQ C v r∧Zr 7900 r∧q (aQ C r) μ)∨(noObj v=true∧jh v=false∧x CA [("value",v)] μ))
def zg (C:Addr) (f:Rat→Rat→Rat):iP:=fun ds μ q _=>∃ (y:Dt) (a b:Rat),ds=[aQ C a,y]∧nQ C y b∧Zr 3900 a∧Zr 3900 b∧q (aQ C (f a b)) μ
def K3 (C:Addr):iP:=fun ds μ q _=>∃ a:Rat,ds=[aQ C a]∧Zr 7900 a∧q (aQ C (-a)) μ
def spEq (K:Frag) (C:Addr):iP:=fun ds μ q _=>∃ (y:Dt) (a:Rat),ds=[aQ C a,y]∧((∃ b,nQ C y b∧q (.bl (decide (a=b))) μ)∨(noObj y=true∧jh y=false∧q (.bl false) μ))
def Gy (C:Addr):iP:=fun ds μ q _=>∃ a:Rat,ds=[aQ C a]∧q (.bl (decide (a≠0))) μ
def JF (C:Addr):iP:=fun ds μ q _=>∃ (x:Dt) (xs:List Dt) (qs:List Rat),ds=[x]∧AG x=some xs∧xs.length=qs.length∧(∀ (i:Nat) (v:Dt) (r:Rat),xs[i]? = some v→qs[i]? = some r→nQ C v r)∧(∀ k,k≤qs.length→Zr 3900 (j9 (qs.take k)))∧(∀ r∈qs,Zr 3900 r)∧q (aQ C (j9 qs)) μ
theorem mG {μ:Mu} {x:Addr} {o u:MO} (h:μ x=none):iD (aJ (aJ μ x o) x u) x=μ:=by
 funext b
 unfold iD aJ
 by_cases e:b=x
 ·rw [if_pos e,e,h]
 ·rw [if_neg e,if_neg e,if_neg e]
theorem gz {μ:Mu} {x:Addr} {o:MO} (h:μ x=none):iD (aJ μ x o) x=μ:=by
 funext b
 unfold iD aJ
 by_cases e:b=x
 ·rw [if_pos e,e,h]
 ·rw [if_neg e,if_neg e]
theorem uJ {K:Frag} {C CA CN:Addr} {t b:Int} {r:Rat} {μ:Mu} {q:DQ} {X:Addr→Addr→List (Str×Dt)→Mu→Prop} (hb:b≠0) (hs:Sz 7900 b) (e:(t:Rat)=r*(b:Rat)) (k:q (aQ C r) μ) :
  ∀ x,μ x=none→BV K C CA CN [.raw (.ref x),.int t,.int b] (aJ μ x (.ins C [])) (FZ C x q) (X x):=by
 intro x hx
 refine ⟨⟨x,_,_,rfl,aq,.int t,.int b,fun b' e'=>by cases e';exact hs,fun t' b' e1 e2 _ r' hr=>?_,fun _ e'=>?_,fun e'=>?_,fun _ e'=>?_⟩⟩
 ·cases e1
  cases e2
  have VM:(b:Rat)≠0:=by exact_mod_cast hb
  have er:r'=r:=by grind
  subst er
  refine ⟨rfl,_,aq,?_⟩
  rw [mG hx]
  exact k
 ·cases e'
  exact absurd rfl hb
 ·cases e'
 ·cases e'
structure VN (C:Addr) (t:DE) (ρ:Ev) (μ:Mu) (y:Dt) (r:Rat) (n:Nat):Prop where
 run:Ve t ρ μ y
 num:nQ C y r
 sz:Zr n r
section
variable {K:Frag} {C CN CA:Addr} {ρ:Ev} {μ:Mu} {t u v:DE} {x y z:Dt} {a b c:Rat} {m n l:Nat} {w:XQ} {i:Int} {p p':Rat→Rat→Bool} {kk:Nat}
theorem z0:Zr 1 (0:Rat):=⟨by unfold Sz;decide,by unfold Sz;decide⟩
theorem uK {k:Nat} (h:ρ[k]? = some (some (aQ C a))) (z:Zr n a):VN C (kX k) ρ μ (aQ C a) a n:=⟨ak h,vI,z⟩
theorem BW {k:Nat} (h:ρ[k]? = some (some (.int i))) (z:Zr n (i:Rat)):VN C (kX k) ρ μ (.int i) (i:Rat) n:=⟨ak h,MQ i,z⟩
theorem MR {f:Rat→Rat→Rat} (A:VN C t ρ μ (aQ C a) a m) (B:VN C u ρ μ y b n) (hm:m≤3900) (hn:n≤3900):Ve (C3 (Jh C (zg C f) w) t u) ρ μ (aQ C (f a b)):=fun q k=>
 A.run _ (B.run _ ⟨kN,B.num.or,y,a,b,rfl,B.num,A.sz.mono hm,B.sz.mono hn,k⟩)
theorem Gz (A:VN C t ρ μ (aQ C a) a m) (B:VN C u ρ μ y b n) (hm:m≤3900) (hn:n≤3900):VN C (C3 (Jh C (zg C (· * ·)) w) t u) ρ μ (aQ C (a*b)) (a*b) (m+n):=⟨MR A B hm hn,vI,A.sz.mul B.sz⟩
theorem GA (A:VN C t ρ μ (aQ C a) a m) (hm:m≤7900):VN C (OF (Jl C (K3 C)) t) ρ μ (aQ C (-a)) (-a) m:=⟨fun q k=>A.run _ ⟨kN,a,rfl,A.sz.mono hm,k⟩,vI,A.sz.neg⟩
theorem GB (A:VN C t ρ μ (aQ C a) a m) (B:VN C u ρ μ y b n):Ve (C3 (OM C (spEq K C)) t u) ρ μ (.bl (decide (a=b))):=fun q k=>A.run _ (B.run _ ⟨kN,B.num.cd,y,a,rfl,.inl ⟨b,B.num,k⟩⟩)
theorem GD (A:VN C t ρ μ (aQ C a) a m) (B:VN C u ρ μ y b n):Ve (C3 (ON C (spEq K C)) t u) ρ μ (.bl (!decide (a=b))):=fun q k=>A.run _ (B.run _ ⟨kN,B.num.cd,y,a,rfl,.inl ⟨b,B.num,_,rfl,k⟩⟩)
theorem GF (A:VN C t ρ μ (aQ C a) a m):Ve (Jf C "top" t) ρ μ (.int a.num):=fun q k=>A.run _ ⟨_,_,rfl,rfl,k⟩
theorem wu (A:VN C t ρ μ (aQ C a) a m):Ve (Jf C "bottom" t) ρ μ (.int a.den):=fun q k=>A.run _ ⟨_,_,rfl,rfl,k⟩
theorem K5 {g:List Dt→List Dt→List Dt} {i j:Int} (A:Ve t ρ μ (.int i)) (B:Ve u ρ μ (.int j)) (h0:j≠0) (hs:Sz 7900 j) (e:(i:Rat)=a*(j:Rat)) (z:Zr n a) (hk:kk=0:=by rfl) (hg:∀ x y z,g [x,y,z] []=[x,y,z]:=by intro _ _ _;rfl) :
  VN C (NO C 2 kk (BV K C CA CN) g w (bD t (bD u fk)) fk) ρ μ (aQ C a) a n:=⟨fun q k=>A _ (B _ ⟨rfl,hk.symm,fun x hx=>by rw [hg];exact uJ (X:=fun x=>MadeX x fun C fs μ3=>w C fs ρ μ3) h0 hs e k x hx⟩),vI,z⟩
theorem GG {g:List Dt→List Dt→List Dt} {i:Int} (A:Ve t ρ μ (.int i)) (e:(i:Rat)=a) (z:Zr n a) (hk:kk=0:=by rfl) (hg:∀ x y,g [x,y] []=[x,y,.int 1]:=by intro _ _;rfl) :
  VN C (NO C 1 kk (BV K C CA CN) g w (bD t fk) fk) ρ μ (aQ C a) a n:=
 ⟨fun q k=>A _ ⟨rfl,hk.symm,fun x hx=>by rw [hg];exact uJ (X:=fun x=>MadeX x fun C fs μ3=>w C fs ρ μ3) (b:=1) (by decide) (Sz.mono (m:=1) (by unfold Sz;decide) (by decide)) (by rw [e];simp) k x hx⟩,vI,z⟩
def VO (C:Addr) (xs:List Dt) (qs:List Rat):Prop:=xs.length=qs.length∧∀ (i:Nat) (v:Dt) (r:Rat),xs[i]? = some v→qs[i]? = some r→nQ C v r
end
section
variable {K:Frag} {C CN CA:Addr} {ρ:Ev} {μ:Mu} {t u v:DE} {ta:DA} {x y z:Dt} {xs:List Dt} {qs:List Rat} {a b c:Rat} {m n l:Nat} {w w':XQ} {i j:Int} {p p':Rat→Rat→Bool} {k1 k2 k3:Bool} {kk:Nat}
theorem BX {n:Nat}:∀ (qs:List Rat) {m:Nat} {a:Rat},Zr m a→(∀ r∈qs,Zr n r)→Zr (m+qs.length*(n+1)) (qs.foldl (· + ·) a)
 |[],m,a,h,_=>h.mono (by simp)
 |q::qs,m,a,h,hq=>by
  have z:=BX qs (h.add (hq q List.mem_cons_self)) fun r hr=>hq r (List.mem_cons_of_mem _ hr)
  refine z.mono ?_
  rw [List.length_cons,Nat.succ_mul]
  omega
theorem JG (h:∀ r∈qs,Zr n r):Zr (1+qs.length*(n+1)) (j9 qs):=BX qs z0 h
theorem JH (h:∀ r∈qs,Zr n r) (hz:1+qs.length*(n+1)≤3900):(∀ k,k≤qs.length→Zr 3900 (j9 (qs.take k)))∧∀ r∈qs,Zr 3900 r:=by
 refine ⟨fun k hk=>?_,fun r hr=>?_⟩
 ·refine (JG (n:=n) (qs:=qs.take k) fun r hr=>h r (List.mem_of_mem_take hr)).mono ?_
  rw [List.length_take,Nat.min_eq_left hk]
  have:=Nat.mul_le_mul_right (n+1) hk
  omega
 ·refine (h r hr).mono ?_
  have l:=List.length_pos_of_mem hr
  have:=Nat.mul_le_mul_right (n+1) l
  omega
end
end HS
namespace HS
open PySem PySem.Spec PyProof.Rows L2
variable [MK]
section
variable {ρ:Ev} {μ:Mu} {t u v:DE} {z y:Str} {i j k:Int} {f g:Int→Int→Bool}
theorem JI (h:Ve t ρ μ (.str z)) (hz:z.length≤sizeLine):Ve (xJ Jm (bD t fk)) ρ μ (.int z.length):=fun q k=>h _ ⟨_,_,rfl,rfl,fun _ e=>by cases e;exact hz,k⟩
theorem wz (h:Ve t ρ μ (.int i)) (h2:Ve u ρ μ (.int j)) (h3:Ve v ρ μ (.int k)):Ve (FU (I9 fun i j=>.bl (f i j)) (I9 fun i j=>.bl (g i j)) t u v) ρ μ (.bl (f i j&&g j k)):=fun q kk=>h _ (h2 _ ⟨i,j,rfl,rfl,f i j,rfl,by
 generalize f i j=b at kk
 cases b with
 |true=>exact h3 _ ⟨j,k,rfl,rfl,_,rfl,kk⟩
 |false=>exact kk⟩)
theorem GH {n:Nat} {F:Str} {vs:List Nat} (h:Ve t ρ μ (.str z)) (hz:z.length≤sizeLine) (hn:n<ρ.length) (hw:∀ x:Option Dt,((j5 ρ vs).set n x)[n]? = some x) :
  Ve (xJ Mx (bD (NS (Gb t) (iG n) AK (KW (OA false) (kX n) (dC (.str F))) vs) fk)) ρ μ (.bl (z.cps.toList.all fun c=>decide (c∈F.cps.toList))):=fun q k=>h _ ⟨z,rfl,by
 rw [List.length_map]
 exact hz,by
 refine Gq (fun d=>match d with
  |.str y=>.bl (y.cps.toList.all fun c=>decide (c∈F.cps.toList))
  |d=>d) ?_ ?_
 ·intro x hx q' hq
  obtain ⟨c,hc,rfl⟩:=eX hx
  refine ⟨_,hw _,c,F,rfl,rfl,?_⟩
  have e:decide (c∈F.cps.toList)=((⟨#[c]⟩:Str).cps.toList.all fun c=>decide (c∈F.cps.toList)):=by simp
  show q' (.bl (decide (c∈F.cps.toList))) μ
  rw [e]
  exact hq
 ·refine ⟨z.cps.toList.map fun c=>decide (c∈F.cps.toList),?_,?_⟩
  ·congr 2
   rw [List.map_map,List.map_map]
   apply List.map_congr_left
   intro c _
   simp
  ·rw [List.all_map]
   exact k⟩
end
theorem len_tl (z:Str):z.length=z.cps.toList.length:=by simp [Str.length]
theorem BY {K:Frag} {μ:Mu} {v:Dt} (hv:r7 K μ v) (h:¬ ∃ z,v=.str z):isT "str" v=false:=by
 cases hv with
 |str x=>exact (h ⟨_,rfl⟩).elim
 |own o h'=>unfold isT;rw [AL h'];rfl
 |_=>rfl
theorem O8 {α:Type} (x:α) (xs:List α):atI (x::xs) 0=some x:=by
 unfold atI ixN
 simp
theorem O9 {α:Type} (x y:α) (xs:List α):atI (x::y::xs) 1=some y:=by
 unfold atI ixN
 rw [if_pos (by decide),if_pos (by simp only [List.length_cons];omega)]
 rfl
theorem Pa {ρ:Ev} {μ:Mu} {c:DT} {t u:DE} {b:Bool} {x:Dt} (h:Vt c ρ μ b) (h1:b=true→Ve t ρ μ x) (h2:b=false→Ve u ρ μ x):Ve (TF c t u) ρ μ x:=fun q k=>h _ (by
 cases b with
 |true=>rw [if_pos rfl];exact h1 rfl _ k
 |false=>rw [if_neg (by decide)];exact h2 rfl _ k)
end HS
namespace HS
open PySem PySem.Spec PyProof.Rows L2
variable [MK]
section
variable {ρ:Ev} {μ:Mu} {t u v tl:DE} {ta tb:DA} {c:DT} {q:DQ} {x:Dt} {r:DR} {E:gX} {s:DS} {p:Addr} {n i:Nat} {w w':XQ} {m:Int} {ms:List Int} {C:Addr} {sp:iP} {g:List Dt→List Dt→List Dt}
theorem Pb (h:t ρ μ E.rt):F3 t E ρ μ:=h
theorem tK (h:t ρ μ fun x μ1=>s E (ρ.set i (some x)) μ1):vH (F6 t (iG i)) s E ρ μ:=h
theorem b9 {qa:List Dt→Mu→Prop} (h:t ρ μ fun x μ1=>ta ρ μ1 fun xs μ2=>qa (x::xs) μ2):bD t ta ρ μ qa:=h
theorem b_ {qb:Bool→Mu→Prop} (h:t ρ μ fun x μ1=>∃ c,x=.bl c∧qb c μ1):dB t ρ μ qb:=h
theorem T3 (h:t ρ μ fun x μ1=>u ρ μ1 fun y μ2=>r x y μ2 q):KW r t u ρ μ q:=h
theorem RI {a b:Nat} (h:ta ρ μ fun ds μ1=>tb ρ μ1 fun es μ2=>ds.length=a∧es.length=b∧∀ x,μ2 x=none→sp (g (.raw (.ref x)::ds) es) (aJ μ2 x (.ins C [])) (FZ C x q) (MadeX x fun C fs μ3=>w C fs ρ μ3)):NO C a b sp g w ta tb ρ μ q:=h
theorem g_ {dvs:List Dt} (h:ta ρ μ fun ds μ1=>sp (ds++dvs) μ1 q (fun C fs μ2=>w C fs ρ μ2)):dG sp dvs w ta ρ μ q:=h
theorem vJ {s':DS} (h:s {E with nx:=s' E} ρ μ):vH s s' E ρ μ:=h
theorem AQ (hv:ρ[i]? = some (some (.raw (.ref p)))) (hp:μ p=some (.jD n)) (hn:n≤1000000000) (h0:0<m) (hz:Sz 4000 m) (k:∀ r:Int,0≤r→r<m→q (.int r) (aJ μ p (.jD (n+1)))):dG BO [] w (bD (kX i) (bD (dC (.int m)) fk)) ρ μ q:=
 ⟨_,hv,p,m,n,rfl,hp,hn,h0,hz,k⟩
theorem MS (hv:ρ[i]? = some (some (.raw (.ref p)))) (V:Ve t ρ μ (.int m)) (hp:μ p=some (.jD n)) (hn:n≤1000000000) (h0:0<m) (hz:Sz 4000 m) (k:∀ r:Int,0≤r→r<m→q (.int r) (aJ μ p (.jD (n+1)))):dG BO [] w (bD (kX i) (bD t fk)) ρ μ q:=
 ⟨_,hv,V _ ⟨p,m,n,rfl,hp,hn,h0,hz,k⟩⟩
theorem oH {xs:List Dt} (hv:ρ[i]? = some (some (.raw (.ref p)))) (V:Ve t ρ μ (.lst xs)) (hp:μ p=some (.jD n)) (hn:n≤1000000000) (h0:0<xs.length) (h1:xs.length≤1000000) (k:∀ d∈xs,q d (aJ μ p (.jD (n+1)))):dG y9 [] w (bD (kX i) (bD t fk)) ρ μ q:=
 ⟨_,hv,V _ ⟨p,_,xs,n,rfl,hp,hn,rfl,fun z e=>(by cases e),h0,h1,k⟩⟩
end
end HS
namespace HS
open PySem PySem.Spec PyProof.Rows L2
variable [MK]
section
variable {K:Frag} {B:Pt} {W:WX} {w:XQ} {sp:iP}
def frozen:MO→Option Dt
 |.lst ds=>some (.lst ds)
 |.dct ds=>some (.dct ds)
 |.ins C fs=>some (.ins C fs)
 |.yS ds=>some (.yS ds)
 |.jD _=>none
def Pc (i:Nat) (t:DS):DS:=fun d ρ μ=>∃ p o x,ρ[i]? = some (some (.raw (.ref p)))∧μ p=some o∧frozen o=some x∧t d (ρ.set i (some x)) (iD μ p)
theorem GJ {P:Pt} {p:Addr} {o:MO} {x:Dt} (s:Sat K P) (hm:P.μ p=some o) (e:frozen o=some x):∃ G,Step K P ⟨G,P.H,iD P.μ p⟩∧Rp K G (.ref p) x:=by
 obtain ⟨g,mo⟩:=s.mu p o hm
 cases o with
 |jD n=>cases e
 |lst ds=>
  cases e
  obtain ⟨vs,h,n,r⟩:=mo
  have st:=Step.fix s hm h
  exact ⟨_,st,.lst upd_same n (r.sf st.sf)⟩
 |dct ds=>
  cases e
  obtain ⟨vs,h,r⟩:=mo
  have st:=Step.fix s hm h
  exact ⟨_,st,.dct upd_same rfl (r.sf st.sf)⟩
 |ins C ds=>
  cases e
  obtain ⟨dx,vs,h,r⟩:=mo
  have st:=Step.fix s hm h
  exact ⟨_,st,.ins upd_same (r.sf st.sf)⟩
 |yS ds=>
  cases e
  obtain ⟨vs,h,r⟩:=mo
  have st:=Step.fix s hm h
  exact ⟨_,st,.yS upd_same rfl (DV.sf st.sf r)⟩
theorem oJ {α:Type} {l:List α} {i:Nat} {x:α} (h:l[i]? = some x):l.set i x=l:=by
 apply List.ext_getElem?
 intro j
 by_cases e:i=j
 ·subst e
  rw [List.getElem?_set]
  obtain ⟨hl,e⟩:=List.getElem?_eq_some_iff.mp h
  simp [hl,e]
 ·rw [List.getElem?_set_ne e]
theorem xS {i:Nat} {ts:TS} {t:DS} (a:nM K B ts t):nM K B ts (Pc i t):=fun σ P ρ D d hB hE ⟨p,o,x,h1,h2,h3,h⟩ k=>by
 obtain ⟨G,st,r⟩:=GJ hB.sat h2 h3
 obtain ⟨v,e1,r1⟩:=hE.2 i _ h1
 obtain rfl:=kY r1
 have e2:=(hE.sf st.sf).set (i:=i) r
 rw [oJ e1] at e2
 exact a σ ⟨G,P.H,iD P.μ p⟩ (ρ.set i (some x)) D d (hB.trans st) e2 h (k.mono st)
end
end HS
namespace HS
open PySem PySem.Spec PyProof.Rows L2
variable [MK]
section
variable {K:Frag} {ρ:Ev} {μ:Mu} {t u v te:DE} {ta tb:DA} {c:DT} {q:DQ} {x y:Dt} {E:gX} {s s':DS} {p:Addr} {i n:Nat} {ds es:List Dt} {w w':XQ} {C CA CN:Addr} {g:List Dt→List Dt→List Dt} {o:MO}
theorem t9:Ve KU ρ μ (.dct []):=fun q k=>k
theorem xT {b:Bool} (h:Ve t ρ μ x) (e:isNone x=some b):Ve (Jc false t) ρ μ (.bl b):=fun q k=>h _ ⟨_,e,k⟩
theorem JJ {b:Bool} (h:Ve t ρ μ x) (e:isNone x=some b):Ve (Jc true t) ρ μ (.bl (!b)):=fun q k=>h _ ⟨_,e,k⟩
theorem MT {fs:List (Str×Dt)} {A:V} {a:Value} {b:Bool} (h:Ve t ρ μ (.exc C fs)) (x:IA K C) (hc:ClsV A a) (e:kitOne K (.ref C) a=some b):Ve (xJ (Ic K) (bD t (bD (dC (.raw A)) fk))) ρ μ (.bl b):=fun q k=>h _ ⟨⟨_,_,_,_,_,rfl,hc,.exc fs x,e,k⟩⟩
theorem Pd {f:Str} {fs:List (Str×Dt)} (h:Ve t ρ μ (.exc C fs)) (e:fs.lookup f=some x):Ve (TH C f t) ρ μ x:=fun q k=>h _ ⟨_,_,rfl,e,k⟩
theorem JK (h1:ρ[i]? = some (some (.raw (.ref p)))) (h2:μ p=some o) (h3:frozen o=some x) (k:s E (ρ.set i (some x)) (iD μ p)):Pc i s E ρ μ:=⟨p,o,x,h1,h2,h3,k⟩
theorem MU {c:Value} {tb:XQ→DS} {ts:DS} (h:tb (MA K c i ts w {E with nx:=s E}) {E with nx:=s E} ρ μ):vH (OT K c i tb ts w) s E ρ μ:=h
theorem zh {z:Dt} (h:Vt c ρ μ true) (g:Ve t ρ μ z) (k:E.rt z μ):vH (yW c (F3 t) yV) s E ρ μ:=h _ (by rw [if_pos rfl];exact g _ k)
end
end HS
namespace HS
open PySem PySem.Spec PyProof.Rows L2
variable [MK]
section
variable {K:Frag} {B:Pt} {W:WX} {w:XQ} {sp:iP}
def Pe (C:Addr) (f:Str) (d:Dt) (t:DE):DE:=fun ρ μ q=>t ρ μ fun x μ1=>(∃ fs,pN μ1 x=some (C,fs)∧fs.lookup f=none)∧q d μ1
theorem GL {C:Addr} {f:Str} {te:TE} {t:DE} {v:V} {d:Dt} (c:Cls K C) (k:∃ u,Con K C f v u) (hd:∀ G,Rp K G v d) (a:cG K B te t):cG K B (tCon K te f) (Pe C f d t):=fun σ P ρ Q q hB hE h k'=>
 a σ P ρ _ _ hB hE h fun v' x P1 s1 r1 ⟨⟨fs,e1,e2⟩,h1⟩=>by
  obtain ⟨p,dx,gs,rfl,hp,tf⟩:=xF s1.sat r1 e1
  obtain ⟨u,k⟩:=k
  exact ⟨p,C,dx,gs,v,u,rfl,hp,c,k,tf.no e2,k' _ _ P1 s1 (hd _) h1⟩
def GN:zY:=fun xs μ q=>∃ d ds,xs=[d]∧AG d=some ds∧∀ p,μ p=none→q (.raw (.ref p)) (aJ μ p (.lst ds))
theorem r8:BI K B (fun xs H Q=>∃ p ys,xs=[.ref p]∧(SqL K H p ys∨SqT K H p ys)∧∀ l,H l=none→Q (.ref l) (upd H l (.lst ys))) GN:=fun vs ds P Q q hB r ⟨d,es,e,e2,h⟩ k=>by
 subst e
 obtain ⟨v,rfl,r1⟩:=mF r
 obtain ⟨p,xs,rfl,t,hs⟩:=FH r1 e2
 refine ⟨p,xs,rfl,hs.imp (fun h=>hB.sat.sub.seq h.1) (fun h=>hB.sat.sub.tup h.1),fun l hl=>?_⟩
 obtain ⟨g,m⟩:=hB.sat.none hl
 have s4:Step K P ⟨P.G,upd P.H l (.lst xs),aJ P.μ l (.lst es)⟩:=.put hB.sat g (.inl hl) ⟨xs,upd_same,hB.sat.ne hl,t⟩
 exact k _ _ _ s4 (.raw _) (h l m)
theorem uL {c:DT} {s r:DS} {E:gX} {ρ:Ev} {μ:Mu} (h:Vt c ρ μ true) (k:s {E with nx:=r E} ρ μ):vH (yW c s yV) r E ρ μ:=h _ (by rw [if_pos rfl];exact k)
theorem RJ {ta:DA} {g:DG} {tt:DT} {te:DE} {vs:List Nat} {ρ:Ev} {μ:Mu} {q:DQ} (h:ta ρ μ fun ds μ1=>∃ j:Int,ds=[.int j]∧-(2 ^ 62)≤j∧j<2 ^ 62∧((xO 0 j.toNat).length≤sizeLine∧NR g tt te (j5 ρ vs) q (xO 0 j.toNat) μ1)):NS (Ga ta) g tt te vs ρ μ q:=h
theorem Pf {ta:DA} {g:DG} {tb:DS} {E:gX} {ρ:Ev} {μ:Mu} {j:Int} (V:Va ta ρ μ [.int j]) (b1 : -(2 ^ 62)≤j) (b2:j<2 ^ 62) (h:NQ g tb E (xO 0 j.toNat) ρ μ):Jt (Ga ta) g tb E ρ μ:=V _ ⟨j,rfl,b1,b2,h⟩
theorem Pg {te:DE} {ρ:Ev} {μ:Mu} {i:Nat} {x:Dt} {A:Dt→Mu→Prop} {Bq:Mu→Prop} (h:te (ρ.set i (some x)) μ A):iG i x ρ μ fun ρ2 μ2=>AK ρ2 μ2 fun b μ3=>if b=true then te ρ2 μ3 A else Bq μ3:=by
 show (if true=true then te (ρ.set i (some x)) μ A else Bq μ)
 rw [if_pos rfl]
 exact h
end
end HS
namespace HS
open PySem PySem.Spec PyProof.Rows L2
section
variable [MK] {ι:Type} {p:ι→Prop} {X:Cx} {e:Expr} {st:Stmt} {K:Frag} {B:Pt}
theorem xU {t u:TE} (h:PE X e t) (g:PE X e u):PE X e (fun σ H Q=>t σ H Q∨u σ H Q):=⟨fun pins s σ H Q I q=>q.elim (h.run pins s σ H Q I) (g.run pins s σ H Q I)⟩
def T4 (p:ι→Prop) (t:ι→DE):DE:=fun ρ μ q=>∃ i,p i∧t i ρ μ q
def RK (p:ι→Prop) (t:ι→DS):DS:=fun d ρ μ=>∃ i,p i∧t i d ρ μ
def JL (t u:DE):DE:=fun ρ μ q=>t ρ μ q∨u ρ μ q
theorem xV {te ue:TE} {t u:DE} (h:cG K B te t) (g:cG K B ue u):cG K B (fun σ H Q=>te σ H Q∨ue σ H Q) (JL t u):=fun σ P ρ Q q hB hE z k=>z.elim (fun z=>.inl (h σ P ρ Q q hB hE z k)) fun z=>.inr (g σ P ρ Q q hB hE z k)
end
section
variable {X:Cx} {k:Nat} {f C:Addr} {fd:FuncData} {ps:List Str} {sp:Sp} {e i:Expr} {te ti:TE} {pos:Pos}
def K6 (C:Addr) (sp:Sp) (te ti:TE):TE:=fun σ H Q=>te σ H fun x H1=>ti σ H1 fun y H2=>H9 C H2 x∧sp [x,y] H2 Q fun _ _ _=>False
theorem JM (hs:findIn X.K (.ref C) "__getitem__" = some (some (.ref f))) (hf:PySem.W.fnIn X.K f=true) (hfn:isFn X.K (.ref f)=true) (F:gG X.prog X.w X.K X.mg X.base k f fd ps sp) (hr:Rm (k+1) X.A) (hb:Binds X.K fd ps []) (hl:ps.length=2)
  (he:PE X e te) (hi:PE X i ti) (hsl:∀ x v,subscripted i true (.ref x) v=runValue (.builtin "lifetime.subscript" ⟨[.ref x,v],[]⟩):=by intro _ _;with_unfolding_all rfl):PE X (.Subscript e i pos) (K6 C sp te ti):=by
 constructor
 intro pins s σ H Q I h
 refine Subscript_ (thn (he.run pins s σ H _ I h) ?_)
 rintro u s1 ⟨x,H1,I1,rx,q1⟩
 refine thn (hi.run pins s1 σ H1 _ I1 q1) ?_
 rintro v s2 ⟨y,H2,I2,ry,⟨a,dx,fs,rfl,ea⟩,q2⟩
 obtain rfl:u=Value.ref a:=rx
 obtain ⟨ob,od,J⟩:=inst_at I2 ea
 obtain ⟨m,Fr⟩:=I2.fr
 exact PySem.W.sub_K Fr I2.ok.mod.kin J hs hf hfn (KP F hr ay I2 (vs:=[.ref a,y]) (gs:=[.ref a,v]) (by simpa using hb s2 [.ref a,v] I2.kIn (by simpa using hl.symm)) (.cons rfl (.cons ry .nil)) q2) (hsl a v)
end
section
variable [MK] {K:Frag} {B:Pt} {sp:iP}
def K7 (C:Addr) (sp:iP) (t u:DE):DE:=fun ρ μ q=>t ρ μ fun x μ1=>u ρ μ1 fun y μ2=>yU C μ2 x∧sp [x,y] μ2 q fun _ _ _=>False
theorem JN {C:Addr} {te ti:TE} {t u:DE} (a:cG K B te t) (b:cG K B ti u):cG K B (K6 C (aV K sp) te ti) (K7 C sp t u):=fun σ P ρ Q q hB hE h k=>
 a σ P ρ _ _ hB hE h fun v x P1 s1 r1 h1=>b σ P1 ρ _ _ (hB.trans s1) (hE.sf s1.sf) h1 fun y z P2 s2 r2 ⟨h2,h3⟩=>
  ⟨mE s2.sat (r1.sf s2.sf) h2,qP s2.sat (.cons (r1.sf s2.sf) (.cons r2 .nil)) h3 fun v d P3 s3 r3 h4=>k v d P3 (s1.trans (s2.trans s3)) r3 h4⟩
end
end HS
namespace HS
open PySem PySem.Spec PyProof.Rows L2
def RL (t:TE):TE:=fun σ H Q=>t σ H fun v H1=>Q v H1∨∃ d u,H1 d=some u∧Mut (some u)∧∀ od,Q v (upd H1 d (.frz od u))
theorem nC {X:Cx} {e:Expr} {t:TE} (h:PE X e t):PE X e (RL t):=by
 refine ⟨fun pins s σ H Q I q=>thn (h.run pins s σ H _ I q) ?_⟩
 rintro u s1 ⟨v,H1,I1,r,q |⟨d,u',hd,mu,q⟩⟩
 ·exact ⟨v,H1,I1,r,q⟩
 ·obtain ⟨od,I2⟩:=I1.lock hd mu
  exact ⟨v,_,I2,r,q od⟩
def wA:Key→Dt
 |.inl i=>.int i
 |.inr x=>.str x
section
variable [MK] {K:Frag} {B:Pt}
theorem AR {G:Hp}:∀ k:Key,Rp K G (kV k) (wA k)
 |.inl i=>.int i
 |.inr x=>.str x
theorem gW.get {G:Hp}:∀ {vs:List (Key×V)} {ds:List (Key×Dt)} {i:Nat} {k:Key} {v:V},gW K G vs ds→vs[i]? = some (k,v)→∃ d,ds[i]? = some (k,d)∧Rp K G v d
 |_,_,i,k,v,.nil,e=>by simp at e
 |_,_,0,k,v,.cons h t,e=>by
  simp at e
  obtain ⟨rfl,rfl⟩:=e
  exact ⟨_,rfl,h⟩
 |_,_,i+1,k,v,.cons h t,e=>by
  obtain ⟨d,e1,r⟩:=gW.get t (show _=some (k,v) from by simpa using e)
  exact ⟨d,by simpa using e1,r⟩
theorem Step.lock {P:Pt} {d:Addr} {o:HO} {kvs:List (Key×V)} (s:Sat K P) (hg:P.G d=some o) (hc:ct o=.dK kvs) (hh:P.H d=some (.dK kvs)) (od:Obj) :
  Step K P ⟨upd P.G d (.frz od (.dK kvs)),upd P.H d (.frz od (.dK kvs)),P.μ⟩:=by
 refine ⟨fun b u e=>?_,⟨SF.I7 s.sub,fun a x e=>?_,mC s.sys rfl,j4 s.tabs (fun u e=>by rw [hh] at e;cases e;rfl),oB s.gt rfl⟩,fun a u e1 e2 e3 e4=>?_,fun a x u e=>?_⟩
 ·by_cases n:b=d
  ·subst n
   rw [hg] at e
   cases e
   exact ⟨_,upd_same,hc.symm⟩
  ·exact ⟨u,(upd_ne n).trans e,rfl⟩
 ·obtain ⟨g,m⟩:=s.mu a x e
  have n:a≠d:=fun z=>by rw [z,hg] at g;cases g
  refine ⟨by show upd _ _ _ _=_;rw [upd_ne n];exact g,m.sf ?_ fun u e=>(upd_ne n).trans e⟩
  intro b u e2
  by_cases n':b=d
  ·subst n'
   rw [hg] at e2
   cases e2
   exact ⟨_,upd_same,hc.symm⟩
  ·exact ⟨u,(upd_ne n').trans e2,rfl⟩
 ·have n:a≠d:=fun z=>by rw [z,hg] at e3;cases e3
  exact ⟨by show upd _ _ _ _=_;rw [upd_ne n];exact e1,by show upd _ _ _ _=_;rw [upd_ne n];exact e3,e4⟩
 ·have n:a≠d:=fun z=>by rw [z,hh] at e;cases e
  show upd _ _ _ _=_
  rw [upd_ne n]
  exact e
theorem wB {P:Pt} {v:V} {ds:List (Key×Dt)} {Q:VK} (s:Sat K P) (r:Rp K P.G v (.dct ds))
  (k:∀ (d:Addr) (o:Obj) (kvs:List (Key×V)) (P':Pt),v=.ref d→P'.μ=P.μ→Step K P P'→P'.H d=some (.frz o (.dK kvs))→gW K P'.G kvs ds→Q v P'.H) :
  Q v P.H∨∃ d u,P.H d=some u∧Mut (some u)∧∀ od,Q v (upd P.H d (.frz od u)):=by
 cases r with
 |@dct a o kvs _ hg hc t=>
  obtain ⟨o',h',e'⟩:=s.sub _ _ hg
  rw [hc] at e'
  cases o' with
  |frz x u=>
   cases u with
   |dK kvs'=>
    have e2:kvs'=kvs:=by
     have z:HO.dK kvs'=HO.dK kvs:=e'
     injection z
    subst e2
    exact .inl (k a x kvs' P rfl rfl (.refl s) h' t)
   |_=>cases e'
  |dK kvs'=>
   have e2:kvs'=kvs:=by
    have z:HO.dK kvs'=HO.dK kvs:=e'
    injection z
   subst e2
   refine .inr ⟨a,_,h',trivial,fun od=>?_⟩
   have st:=Step.lock s hg hc h' od
   exact k a od kvs' ⟨_,_,_⟩ rfl rfl st upd_same (t.sf st.sf)
  |_=>cases e'
def uM (t:DE):DI:=fun ρ μ q=>t ρ μ fun x μ1=>∃ ds:List (Key×Dt),x=.dct ds∧q (ds.map fun kv=>wA kv.1) μ1
def GO (t:DE):DI:=fun ρ μ q=>t ρ μ fun x μ1=>∃ ds:List (Key×Dt),x=.dct ds∧q (ds.map fun kv=>.tup [wA kv.1,kv.2]) μ1
theorem AS {P:Pt} {d:Addr} {o:Obj} {kvs:List (Key×V)} {ds:List (Key×Dt)} (h:P.H d=some (.frz o (.dK kvs))) (t:gW K P.G kvs ds):uE K P (Itk d o kvs) (ds.map fun kv=>wA kv.1):=
 ⟨fun P' s=>⟨s.lk d o _ h,by simp [t.length]⟩,fun i P' hi s=>⟨s.lk d o _ h,by simpa [t.length] using hi⟩,fun i P' x H' s hi y=>by
  obtain ⟨rfl,k,v,e,rfl⟩:=y
  obtain ⟨dv,e1,_⟩:=t.get e
  exact ⟨P',wA k,rfl,rfl,.refl s.sat,by simp [e1],AR k⟩⟩
theorem zj {P:Pt} {d:Addr} {o:Obj} {kvs:List (Key×V)} {ds:List (Key×Dt)} (h:P.H d=some (.frz o (.dK kvs))) (t:gW K P.G kvs ds):uE K P (Iti d o kvs) (ds.map fun kv=>.tup [wA kv.1,kv.2]):=
 ⟨fun P' s=>⟨s.lk d o _ h,by simp [t.length]⟩,fun i P' hi s=>⟨s.lk d o _ h,by simpa [t.length] using hi⟩,fun i P' x H' s hi y=>by
  obtain ⟨T,k,v,e,rfl,hT,rfl⟩:=y
  obtain ⟨dv,e1,r⟩:=t.get e
  have st:=Step.new (u:=.tup [kV k,v]) s.sat hT
  exact ⟨⟨upd P'.G T (.tup [kV k,v]),upd P'.H T (.tup [kV k,v]),P'.μ⟩,.tup [wA k,dv],rfl,rfl,st,by simp [e1],.tup (.inl (.inl upd_same)) (.cons (AR k) (.cons (r.sf (s.trans st).sf) .nil))⟩⟩
theorem f9 {te:TE} {t:DE} (a:cG K B te t):LiI K B (iKeys (RL te)) (uM t):=fun σ P ρ R q hB hE h k=>
 a σ P ρ _ _ hB hE h fun v x P1 s1 r ⟨ds,e,h1⟩=>by
  subst e
  exact wB (Q:=fun x H1=>∃ d o,x=V.ref d∧((∃ kvs,H1 d=some (.frz o (.dK kvs))∧R (Itk d o kvs) H1)∨∃ kvs,H1 d=some (.frz o (.dT kvs))∧R (Itkt d o kvs) H1)) s1.sat r fun d o kvs P' ev em st hd t=>⟨d,o,ev,.inl ⟨kvs,hd,k _ _ P' (s1.trans st) (AS hd t) (by rw [em];exact h1)⟩⟩
theorem wC {te:TE} {t:DE} (a:cG K B te t):LiI K B (iItems (RL te)) (GO t):=fun σ P ρ R q hB hE h k=>
 a σ P ρ _ _ hB hE h fun v x P1 s1 r ⟨ds,e,h1⟩=>by
  subst e
  exact wB (Q:=fun x H1=>∃ d o kvs,x=V.ref d∧H1 d=some (.frz o (.dK kvs))∧R (Iti d o kvs) H1) s1.sat r fun d o kvs P' ev em st hd t=>⟨d,o,kvs,ev,hd,k _ _ P' (s1.trans st) (zj hd t) (by rw [em];exact h1)⟩
end
end HS
namespace HS
open PySem PySem.Spec PyProof.Rows L2
section
variable [MK] {K:Frag} {B:Pt}
structure RM (g:DG) (tt:DT) (tk tv:DE) (ρ:Ev) (q:DQ) (ds:List Dt) (μ:Mu):Prop where
 ex:∃ I:Nat→List (Key×Dt)→Mu→Prop,I 0 [] μ∧(∀ i x acc μ,I i acc μ→ds[i]? = some x→g x ρ μ fun ρ2 μ2=>tt ρ2 μ2 fun b μ3=>if b=true then tk ρ2 μ3 fun y μ4=>tv ρ2 μ4 fun z μ5=>∃ k,uC y=some k∧I (i+1) (gZ acc k z) μ5 else I (i+1) acc μ3)∧∀ acc μ,I ds.length acc μ→q (.dct acc) μ
def T5 (ti:DI) (g:DG) (tt:DT) (tk tv:DE) (vs:List Nat):DE:=fun ρ μ q=>ti ρ μ fun ds μ1=>ds.length≤sizeLine∧RM g tt tk tv (j5 ρ vs) q ds μ1
@[irreducible] def Qv (J:It) (g:TG) (tt:TT) (tk tv:TE) (vs:List Nat) (σ:L2.St) (Q:VK) (D:Addr) (H1:Hp):Prop:=
 ∃ W:Nat→Nat→Hp→Prop,(∃ m,W 0 m (upd H1 D (.dK [])))∧∀ i m H,W i m H→
 (J.stop i H∧Q (.ref D) H)∨(J.go i H∧∃ Nx:Hp→Prop,(∀ H',Nx H'→∃ m',m'<m∧W (i+1) m' H')∧∀ x H',J.yld i H x H'→g x (L2.wipe σ vs) H' fun σ2 H2=>L2.wipe σ2 vs=L2.wipe σ vs∧tt σ2 H2 fun b H3=>
  if b=true then tk σ2 H3 fun y H4=>tv σ2 H4 fun z H5=>∃ kvs k,y=kV k∧H5 D=some (.dK kvs)∧kvs.length<sizeLine∧Nx (upd H5 D (.dK (putK kvs k z))) else Nx H3)
@[irreducible] def GP (wi:TI) (g:TG) (tt:TT) (tk tv:TE) (vs:List Nat):TE:=tDc wi g tt tk tv vs
theorem MV {wi:TI} {g:TG} {tt:TT} {tk tv:TE} {vs:List Nat} {σ:L2.St} {H:Hp} {Q:VK} (h:wi σ H fun J H1=>∀ D,H1 D=none→Qv J g tt tk tv vs σ Q D H1):GP wi g tt tk tv vs σ H Q:=by
 unfold GP tDc
 unfold Qv at h
 exact h
theorem GU {J:It} {P:Pt} {ds:List Dt} {g:TG} {tt:TT} {tk tv:TE} {gd:DG} {td:DT} {kd vd:DE} {vs:List Nat} {σ:L2.St} {ρ:Ev} {Q:VK} {q:DQ} (hB:Step K B P) (R:uE K P J ds) (hg:MF K B vs g gd) (ht:zX K B tt td) (hk:cG K B tk kd) (hv:cG K B tv vd) (hE:Env K P.G σ ρ)
  (hn:ds.length≤sizeLine) (h:RM gd td kd vd (j5 ρ vs) q ds P.μ) (k:∀ v d P',Step K P P'→Rp K P'.G v d→q d P'.μ→Q v P'.H) {D:Addr} (hD:P.H D=none):Qv J g tt tk tv vs σ Q D P.H:=by
 unfold Qv
 obtain ⟨I,h0,turn,fin⟩:=h.ex
 have s0:∀ ws:List (Key×V),Step K P ⟨P.G,upd P.H D (.dK ws),P.μ⟩:=fun u=>.lay hB.sat hD
 refine ⟨fun i m H'=>m=ds.length - i∧i≤ds.length∧∃ (P':Pt) (acc:List (Key×V)) (ad:List (Key×Dt)),P'.H=H'∧Step K P P'∧P'.H D=some (.dK acc)∧P'.G D=none∧P'.μ D=none∧acc.length≤i∧gW K P'.G acc ad∧I i ad P'.μ,
  ⟨_,rfl,Nat.zero_le _,⟨P.G,upd P.H D (.dK []),P.μ⟩,[],[],rfl,s0 _,upd_same,(hB.sat.none hD).1,(hB.sat.none hD).2,Nat.le_refl _,.nil,h0⟩,?_⟩
 rintro i m H' ⟨rfl,hi,P',acc,ad,rfl,s,eD,gD,mD,la,ra,hf⟩
 -- what is hidden stays
 have put:∀ {P2:Pt} (Ge:List (Key×V)),Step K P P2→P2.H D=some (.dK acc)→P2.G D=none→P2.μ D=none→Step K P ⟨P2.G,upd P2.H D (.dK Ge),P2.μ⟩:=fun {P2} Ge s2 h1 h2 h3=>by
  refine ⟨s2.sf,Step.hid s2.sat h2 h3 (fun v e=>by rw [h1] at e;cases e;rfl),fun b o e1 e0 e2 e3=>?_,fun b x v e=>?_⟩
  ·have n:b≠D:=fun z=>by rw [z,hD] at e1;cases e1
   obtain ⟨q1,q2,q3⟩:=s2.fr b o e1 e0 e2 e3
   exact ⟨by show upd P2.H D _ b=_;rw [upd_ne n];exact q1,q2,q3⟩
  ·have n:b≠D:=fun z=>by rw [z,hD] at e;cases e
   show upd P2.H D _ b=_
   rw [upd_ne n]
   exact s2.lk b x v e
 by_cases hl:i<ds.length
 ·refine .inr ⟨R.go i P' hl s,fun H2=>i+1≤ds.length∧∃ (P2:Pt) (acc:List (Key×V)) (ad:List (Key×Dt)),P2.H=H2∧Step K P P2∧P2.H D=some (.dK acc)∧P2.G D=none∧P2.μ D=none∧acc.length≤i+1∧gW K P2.G acc ad∧I (i+1) ad P2.μ,?_,fun x H2 y=>?_⟩
  ·rintro H2 ⟨h1,h2⟩
   exact ⟨_,by omega,rfl,h1,h2⟩
  ·obtain ⟨P2,x',rfl,hm,s2,hx,r⟩:=R.yld i P' x H2 s hl y
   have hf':=turn i x' ad P2.μ (by rw [hm];exact hf) hx
   have zZ:=s.trans s2
   obtain ⟨Rv,Rx,Ry⟩:=s2.fr D _ eD rfl gD mD
   refine hg x x' (L2.wipe σ vs) P2 (j5 ρ vs) _ _ (hB.trans zZ) r (Env.wipe vs (hE.sf zZ.sf)) hf' fun σ3 P3 ρ3 s3 e3 wv h3=>?_
   have Rz:L2.wipe σ3 vs=L2.wipe σ vs:=wv.trans (yY.qt σ vs)
   have vF:=zZ.trans s3
   obtain ⟨RA,RC,RD⟩:=s3.fr D _ Rv rfl Rx Ry
   refine ⟨Rz,ht σ3 P3 ρ3 _ _ (hB.trans vF) e3 h3 fun b P4 s4 h4=>?_⟩
   have MG:=vF.trans s4
   obtain ⟨OV,OW,OY⟩:=s4.fr D _ RA rfl RC RD
   cases b with
   |false=>exact ⟨hl,P4,acc,ad,rfl,MG,OV,OW,OY,by omega,ra.sf (s2.trans (s3.trans s4)).sf,h4⟩
   |true=>
    refine hk σ3 P4 ρ3 _ _ (hB.trans MG) (e3.sf s4.sf) h4 fun y yd P5 s5 r5 h5=>?_
    have Qp:=MG.trans s5
    obtain ⟨Qm,Qn,Qo⟩:=s5.fr D _ OV rfl OW OY
    refine hv σ3 P5 ρ3 _ _ (hB.trans Qp) (e3.sf (s4.trans s5).sf) h5 fun v d P6 s6 r6 ⟨k,ek,h6⟩=>?_
    obtain ⟨T6,T7,T8⟩:=s6.fr D _ Qm rfl Qn Qo
    have VP:=Qp.trans s6
    have:=length_putK acc k v
    refine ⟨acc,k,lC r5 ek,T6,by omega,hl,⟨P6.G,upd P6.H D (.dK (putK acc k v)),P6.μ⟩,putK acc k v,gZ ad k d,rfl,put _ VP T6 T7 T8,upd_same,T7,T8,by omega,(ra.sf (s2.trans (s3.trans (s4.trans (s5.trans s6)))).sf).put r6,h6⟩
 ·have e0:i=ds.length:=by omega
  subst e0
  refine .inl ⟨R.stop P' s,?_⟩
  -- Lk list is shown
  have s9:Step K P ⟨upd P'.G D (.dK acc),P'.H,P'.μ⟩:=by
   refine ⟨s.sf.trans (.upd gD),⟨fun b v e=>?_,fun b o e=>?_,s.sat.sys,s.sat.tabs,oB s.sat.gt rfl⟩,fun b o e1 e0 e2 e3=>?_,s.lk⟩
   ·by_cases n:b=D
    ·subst n
     have e':upd P'.G b (.dK acc) b=some v:=e
     rw [upd_same] at e'
     cases e'
     exact ⟨_,eD,rfl⟩
    ·have e':upd P'.G D (.dK acc) b=some v:=e
     rw [upd_ne n] at e'
     exact s.sat.sub b v e'
   ·have n:b≠D:=fun z=>by rw [z] at e;rw [show P'.μ D=some o from e] at mD;cases mD
    obtain ⟨h1,h2⟩:=s.sat.mu b o e
    exact ⟨by show upd P'.G D _ b=_;rw [upd_ne n];exact h1,h2.sf (.upd gD) fun v q=>q⟩
   ·have n:b≠D:=fun z=>by rw [z,hD] at e1;cases e1
    obtain ⟨q1,q2,q3⟩:=s.fr b o e1 e0 e2 e3
    exact ⟨q1,by show upd P'.G D _ b=_;rw [upd_ne n];exact q2,q3⟩
  exact k (.ref D) (.dct ad) ⟨upd P'.G D (.dK acc),P'.H,P'.μ⟩ s9 (.dct upd_same rfl (ra.sf (.upd gD))) (fin _ _ hf)
theorem K8 {wi:TI} {g:TG} {tt:TT} {tk tv:TE} {ti:DI} {gd:DG} {td:DT} {kd vd:DE} {vs:List Nat} (hi:LiI K B wi ti) (hg:MF K B vs g gd) (ht:zX K B tt td) (hk:cG K B tk kd) (hv:cG K B tv vd):cG K B (GP wi g tt tk tv vs) (T5 ti gd td kd vd vs):=fun σ P ρ Q q hB hE h k=>
 MV (hi σ P ρ _ _ hB hE h fun J ds P1 s R ⟨hn,h1⟩ D hD=>GU (hB.trans s) R hg ht hk hv (hE.sf s.sf) hn h1 (fun v d P' s' r h'=>k v d P' (s.trans s') r h') hD)
end
end HS
namespace HS
open PySem PySem.Spec PyProof.Rows L2
section
variable [MK] {K:Frag} {B:Pt}
def mH (acc more:List (Key×Dt)):List (Key×Dt):=more.foldl (fun acc kv=>gZ acc kv.1 kv.2) acc
theorem gW.merge {G:Hp}:∀ {vs:List (Key×V)} {ds:List (Key×Dt)} {as:List (Key×V)} {bs:List (Key×Dt)},gW K G vs ds→gW K G as bs→gW K G (mergeK as vs) (mH bs ds)
 |_,_,_,_,.nil,h=>h
 |_,_,as,bs,.cons (f:=f) (v:=v) (vs:=vs) (d:=d) (ds:=ds) r t,h=>by
  show gW K G (mergeK (putK as f v) vs) (mH (gZ bs f d) ds)
  exact gW.merge t (h.put r)
def JO:zY:=fun xs μ q=>∃ d ds,xs=[d]∧oE μ d=some ds∧∀ p,μ p=none→q (.raw (.ref p)) (aJ μ p (.dct ds))
theorem wD:BI K B (fun xs H Q=>∃ (a:Addr) (kvs:List (Key×V)),xs=[.ref a]∧L2.Rd H a (.dK kvs)∧∀ p,H p=none→Q (.ref p) (upd H p (.dK kvs))) JO:=fun vs ds P Q q hB r ⟨d,es,e,e2,h⟩ k=>by
 subst e
 obtain ⟨v,rfl,r1⟩:=mF r
 obtain ⟨a,kvs,rfl,hp,t⟩:=uD hB.sat r1 e2
 refine ⟨a,kvs,rfl,hp,fun p hn=>?_⟩
 obtain ⟨g,m⟩:=hB.sat.none hn
 have st:Step K P ⟨P.G,upd P.H p (.dK kvs),aJ P.μ p (.dct es)⟩:=.put hB.sat g (.inl hn) ⟨kvs,upd_same,t⟩
 exact k _ _ _ st (.raw _) (h p m)
def GV:zY:=fun xs μ q=>∃ d ds,xs=[d]∧oE μ d=some ds∧q (.lst (ds.map fun kv=>wA kv.1)) μ
theorem zk {G:Hp}:∀ {vs:List (Key×V)} {ds:List (Key×Dt)},gW K G vs ds→dh K G (vs.map fun kv=>kV kv.1) (ds.map fun kv=>wA kv.1)
 |_,_,.nil=>.nil
 |_,_,.cons (f:=f) r t=>.cons (AR f) (zk t)
theorem GW:BI K B (fun xs H Q=>∃ (a:Addr) (kvs:List (Key×V)),xs=[.ref a]∧L2.Rd H a (.dK kvs)∧∀ p,H p=none→Q (.ref p) (upd H p (.lst (kvs.map fun kv=>kV kv.1)))) GV:=fun vs ds P Q q hB r ⟨d,es,e,e2,h⟩ k=>by
 subst e
 obtain ⟨v,rfl,r1⟩:=mF r
 obtain ⟨a,kvs,rfl,hp,t⟩:=uD hB.sat r1 e2
 refine ⟨a,kvs,rfl,hp,fun p hn=>?_⟩
 have st:=Step.new (u:=.lst (kvs.map fun kv=>kV kv.1)) hB.sat hn
 exact k _ _ ⟨_,_,_⟩ st (.lst upd_same (hB.sat.ne hn) (zk (t.sf st.sf))) h
def tL:List Dt→Option (List (Key×Dt))
 |[]=>some []
 |.tup [k,v]::r=>match uC k,tL r with
  |some k,some l=>some ((k,v)::l)
  |_,_=>none
 |_::_=>none
theorem AU {P:Pt} (s:Sat K P):∀ {xs:List V} {es:List Dt} {ds:List (Key×Dt)},dh K P.G xs es→tL es=some ds→
  ∃ (ps:List Addr) (kvs:List (Key×V)),xs=ps.map V.ref∧Paired (fun p kv=>SqT K P.H p [kV kv.1,kv.2]) ps kvs∧gW K P.G kvs ds
 |_,_,_,.nil,e=>by
  cases e
  exact ⟨[],[],rfl,.nil,.nil⟩
 |_,_,ds,.cons (d:=d) r t,e=>by
  match d,e with
  |.tup [k,v],e=>
   unfold tL at e
   split at e
   ·rename_i ky l e1 e2
    cases e
    obtain ⟨ps,kvs,e3,p,rk⟩:=AU s t e2
    cases r with
    |@tup a ys _ hs ta=>
     obtain ⟨w,z,rfl,r1,r2⟩:=C5 ta
     obtain rfl:=lC r1 e1
     exact ⟨a::ps,(ky,z)::kvs,by rw [e3];rfl,.cons (s.sub.tup hs) p,.cons r2 rk⟩
   ·cases e
def MW:zY:=fun xs μ q=>∃ es ds,xs=[.lst es]∧tL es=some ds∧q (.dct (mH [] ds)) μ
def JP:zY:=fun xs μ q=>∃ es ds,xs=[.lst es]∧tL es=some ds∧∀ p,μ p=none→q (.raw (.ref p)) (aJ μ p (.dct (mH [] ds)))
theorem uN:BI K B (fun xs H Q=>∃ (a:Addr) (ps:List Addr) (kvs:List (Key×V)),xs=[.ref a]∧SqL K H a (ps.map V.ref)∧Paired (fun p kv=>SqT K H p [kV kv.1,kv.2]) ps kvs∧∀ p,H p=none→Q (.ref p) (upd H p (.dK (mergeK [] kvs)))) MW:=fun vs ds P Q q hB r ⟨es,ds',e,e2,h⟩ k=>by
 subst e
 obtain ⟨v,rfl,r1⟩:=mF r
 cases r1 with
 |@lst a xs _ hs n t=>
  obtain ⟨ps,kvs,rfl,p,rk⟩:=AU hB.sat t e2
  refine ⟨a,ps,kvs,rfl,.of (hB.sat.sub.fH hs rfl),p,fun p hn=>?_⟩
  have st:=Step.new (u:=.dK (mergeK [] kvs)) hB.sat hn
  exact k _ _ ⟨_,_,_⟩ st (.dct upd_same rfl (gW.merge (rk.sf st.sf) .nil)) h
theorem Di:BI K B (fun xs H Q=>∃ (a:Addr) (ps:List Addr) (kvs:List (Key×V)),xs=[.ref a]∧SqL K H a (ps.map V.ref)∧Paired (fun p kv=>SqT K H p [kV kv.1,kv.2]) ps kvs∧∀ p,H p=none→Q (.ref p) (upd H p (.dK (mergeK [] kvs)))) JP:=fun vs ds P Q q hB r ⟨es,ds',e,e2,h⟩ k=>by
 subst e
 obtain ⟨v,rfl,r1⟩:=mF r
 cases r1 with
 |@lst a xs _ hs n t=>
  obtain ⟨ps,kvs,rfl,p,rk⟩:=AU hB.sat t e2
  refine ⟨a,ps,kvs,rfl,.of (hB.sat.sub.fH hs rfl),p,fun p hn=>?_⟩
  obtain ⟨g,m⟩:=hB.sat.none hn
  have st:Step K P ⟨P.G,upd P.H p (.dK (mergeK [] kvs)),aJ P.μ p (.dct (mH [] ds'))⟩:=.put hB.sat g (.inl hn) ⟨_,upd_same,gW.merge rk .nil⟩
  exact k _ _ _ st (.raw _) (h p m)
theorem BZ {G:Hp}:∀ ss:List Str,dh K G (ss.map V.str) (ss.map Dt.str)
 |[]=>.nil
 |s::ss=>.cons (.str s) (BZ ss)
def qU:zY:=fun xs μ q=>∃ (d:Dt) (ss:List Str),xs=[d]∧AG d=some (ss.map Dt.str)∧d=.lst (ss.map Dt.str)∧ss.length<64∧∀ ys:List Str,ys.Perm ss→sortedS ys=true→q (.lst (ys.map Dt.str)) μ
theorem uO:BI K B (rSortedS K) qU:=fun vs ds P Q q hB r ⟨d,ss,e,_,e2,hl,h⟩ k=>by
 subst e e2
 obtain ⟨v,rfl,r1⟩:=mF r
 cases r1 with
 |@lst a xs _ hs n t=>
  obtain rfl:=BQ t
  refine ⟨a,ss,rfl,.of (hB.sat.sub.fH hs rfl),hl,fun ys p hp hs2 hn=>?_⟩
  have st:=Step.new (u:=.lst (ys.map V.str)) hB.sat hn
  exact k _ _ ⟨_,_,_⟩ st (.lst upd_same (hB.sat.ne hn) (BZ ys)) (h ys hp hs2)
def MX (to:DE) (t:DA):DE:=fun ρ μ q=>to ρ μ fun x μ0=>∃ a,x=.raw (.ref a)∧(∃ es,μ0 a=some (.lst es))∧t ρ μ0 fun ys μ1=>∃ ds i j y,ys=[.int i]∧μ1 a=some (.lst ds)∧-(2 ^ 63)≤i∧i<2 ^ 63∧seqIndex? i ds.length=some j∧ds[j]? = some y∧q y (aJ μ1 a (.lst (ds.eraseIdx j)))
theorem dh.eraseIdx {G:Hp}:∀ {vs:List V} {ds:List Dt} (j:Nat),dh K G vs ds→dh K G (vs.eraseIdx j) (ds.eraseIdx j)
 |_,_,_,.nil=>.nil
 |_,_,0,.cons _ t=>t
 |_,_,j+1,.cons h t=>.cons h (dh.eraseIdx j t)
theorem GZ {te:TE} {ta:TA} {to:DE} {t:DA} (a:cG K B te to) (b:we K B ta t):cG K B (tBM K "list" rPopAt te ta) (MX to t):=fun σ P ρ Q q hB hE h k=>
 a σ P ρ _ _ hB hE h fun v x P1 s1 r1 ⟨p,e,⟨es,e0⟩,h1⟩=>by
  subst e
  obtain rfl:=kY r1
  obtain ⟨_,vs,hv,_⟩:=s1.sat.mu p _ e0
  refine ⟨.inl ⟨rfl,vs,.inl (.inl hv)⟩,b σ P1 ρ _ _ (hB.trans s1) (hE.sf s1.sf) h1 fun ws ys P2 s2 r2 ⟨ds,i,j,y,e2,e3,l1,l2,e4,e5,h2⟩=>?_⟩
  subst e2
  obtain ⟨w,rfl,rw⟩:=mF r2
  obtain rfl:=fX rw
  obtain ⟨g,vs,hp,ns,t⟩:=s2.sat.mu p _ e3
  obtain ⟨z,e6,rz⟩:=t.get e5
  refine ⟨p,vs,i,j,z,rfl,rfl,hp,l1,l2,by rw [t.length];exact e4,e6,?_⟩
  have s3:Step K P2 ⟨P2.G,upd P2.H p (.lst (vs.eraseIdx j)),aJ P2.μ p (.lst (ds.eraseIdx j))⟩:=.put s2.sat g (.inr (by rw [e3];simp)) ⟨_,upd_same,ns,t.eraseIdx j⟩
  exact k z y ⟨P2.G,upd P2.H p (.lst (vs.eraseIdx j)),aJ P2.μ p (.lst (ds.eraseIdx j))⟩ (s1.trans (s2.trans s3)) (rz.sf s3.sf) h2
def G0 (td ty tx:DE):DE:=fun ρ μ q=>td ρ μ fun x μ1=>(∃ ds,oE μ1 x=some ds)∧ty ρ μ1 fun y μ2=>tx ρ μ2 fun z μ3=>∃ ds k,oE μ3 x=some ds∧uC y=some k∧q ((valD ds k).getD z) μ3
theorem zm {td ty tx:TE} {t u x:DE} (a:cG K B td t) (b:cG K B ty u) (c:cG K B tx x):cG K B (tDGet2 td ty tx) (G0 t u x):=fun σ P ρ Q q hB hE h k=>
 a σ P ρ _ _ hB hE h fun v x P1 s1 r1 ⟨⟨Wu,e0⟩,h1⟩=>by
  obtain ⟨p,RN,rfl,hp0,_⟩:=uD s1.sat r1 e0
  refine ⟨p,rfl,.inl ⟨RN,hp0⟩,b σ P1 ρ _ _ (hB.trans s1) (hE.sf s1.sf) h1 fun w y P2 s2 r2 h2=>c σ P2 ρ _ _ (hB.trans (s1.trans s2)) (hE.sf (s1.trans s2).sf) h2 fun z' z P3 s3 r3 ⟨ds,ky,e1,e2,h3⟩=>?_⟩
  obtain ⟨p',kvs,ep,hp,t⟩:=uD s3.sat (r1.sf (s2.trans s3).sf) e1
  cases ep
  obtain ⟨o,e4,e5⟩:=t.val (k:=ky) _ rfl
  refine ⟨o,.inl ⟨kvs,ky,hp,lC (r2.sf s3.sf) e2,e4.symm⟩,?_⟩
  cases o with
  |none=>cases hz:valD ds ky with
   |none=>rw [hz] at h3;exact k _ _ P3 (s1.trans (s2.trans s3)) r3 h3
   |some z=>rw [hz] at e5;exact e5.elim
  |some w=>cases hz:valD ds ky with
   |none=>rw [hz] at e5;exact e5.elim
   |some z=>rw [hz] at h3 e5;exact k _ _ P3 (s1.trans (s2.trans s3)) e5 h3
end
end HS
namespace HS
open PySem PySem.Spec PyProof.Rows L2
theorem G3 {X:Cx} {kx vx tg iter:Expr} {ifs:List Expr} {scope:Scope} {own:List (Str×Nat)} {pos:Pos} {wi:TI} {g:TG} {tt:TT} {tk tv:TE} (hc:X.calm=true) (hN:X.N.Nodup) (hi:PI X tg iter wi) (ok:BlkOk X.N X.env.scope scope own)
  (hg:∀ (s:Shared) (H:Hp) (C:Addr) (cl:List (Str×Addr)) (fp:List Addr),PG (X.blk s H scope (compEnvC scope cl C X.env) fp) tg g) (ht:∀ (s:Shared) (H:Hp) (C:Addr) (cl:List (Str×Addr)) (fp:List Addr),PTs (X.blk s H scope (compEnvC scope cl C X.env) fp) ifs tt)
  (hk:∀ (s:Shared) (H:Hp) (C:Addr) (cl:List (Str×Addr)) (fp:List Addr),PE (X.blk s H scope (compEnvC scope cl C X.env) fp) kx tk)
  (he:∀ (s:Shared) (H:Hp) (C:Addr) (cl:List (Str×Addr)) (fp:List Addr),PE (X.blk s H scope (compEnvC scope cl C X.env) fp) vx tv) (hs:∀ x,foldedSetIterable iter X.env x=pure x:=by intro _;rfl) :
  PE X (.DictComp kx vx [⟨tg,iter,ifs,0⟩] scope pos) (GP wi g tt tk tv (own.map (·.2))):=by
 unfold GP
 exact pe_dc hc hN hi ok hg ht hk he hs
section
variable [MK] {K:Frag} {B:Pt}
def K9:zY:=fun xs μ q=>∃ z:Str,xs=[.str z]∧q (.str z) μ
theorem mJ:BI K B (fun xs H Q=>∃ a,xs=[.str a]∧Q (.str a) H) K9:=fun vs ds P Q q hB r ⟨z,e,h⟩ k=>by
 subst e
 obtain ⟨v,rfl,r1⟩:=mF r
 obtain rfl:=uw r1
 exact ⟨z,rfl,k _ _ P (.refl hB.sat) (.str _) h⟩
end
section
variable [MK] {K:Frag} {B:Pt} {ι:Type} {p:ι→Prop}
theorem xW {te:TE} {t:ι→DE} (h:∀ i,p i→cG K B te (t i)):cG K B te (T4 p t):=fun σ P ρ Q q hB hE ⟨i,hi,z⟩ k=>h i hi σ P ρ Q q hB hE z k
theorem JQ {te:TS} {t:ι→DS} (h:∀ i,p i→nM K B te (t i)):nM K B te (RK p t):=fun σ P ρ D d hB hE ⟨i,hi,z⟩ k=>h i hi σ P ρ D d hB hE z k
end
section
variable {X:Cx} {K:Frag} {e:Expr} {f:Str} {pos:Pos} {ta:TE}
theorem B4 (hK:X.K=K) (he:PE X e ta) (hb:attributeBase e f X.env (eval e X.env)=eval e X.env):PE X (.Attribute e f pos) (tCon K ta f):=by
 subst hK
 exact pe_con he hb
end
end HS
namespace HS
open PySem PySem.Spec PyProof.Rows L2
section
variable [MK] {K:Frag} {ρ:Ev} {μ:Mu} {t u:DE} {ta tb:DA} {c:DT} {x y z d:Dt} {ds es:List Dt} {sp:iP} {w:XQ} {C:Addr} {b:Bool}
theorem pC {dvs:List Dt} (h:Va ta ρ μ ds) (k:∀ (q:DQ) (x:Addr→List (Str×Dt)→Mu→Prop),q d μ→sp (ds++dvs) μ q x):Ve (dG sp dvs w ta) ρ μ d:=fun q k'=>h _ (k _ _ k')
theorem G4 {n m:Nat} {gD:List Dt→List Dt→List Dt} (h:Va ta ρ μ ds) (g:Va tb ρ μ es) (k:∀ (q:DQ) (x:Addr→List (Str×Dt)→Mu→Prop),q d μ→sp (gD ds es) μ q x) (l:ds.length=n:=by rfl) (l':es.length=m:=by rfl):Ve (TN n m sp gD w ta tb) ρ μ d:=fun q k'=>h _ (g _ ⟨l,l',k _ _ k'⟩)
theorem G5 {f:Str} {n m:Nat} {gD:List Dt→List Dt→List Dt} {fs:List (Str×Dt)} (h:Ve t ρ μ x) (e:pN μ x=some (C,fs)) (l:fs.lookup f=none) (ha:Va ta ρ μ ds) (hb:Va tb ρ μ es) (k:∀ (q:DQ) (x':Addr→List (Str×Dt)→Mu→Prop),q d μ→sp (gD (x::ds) es) μ q x') (l1:ds.length=n:=by rfl) (l2:es.length=m:=by rfl):Ve (TQ C f n m sp gD w t ta tb) ρ μ d:=fun q k'=>h _ ⟨⟨_,e,l⟩,ha _ (hb _ ⟨l1,l2,k _ _ k'⟩)⟩
theorem ua (h:Ve t ρ μ d):Ve (JL t u) ρ μ d:=fun q k=>.inl (h q k)
theorem B5 (h:Ve u ρ μ d):Ve (JL t u) ρ μ d:=fun q k=>.inr (h q k)
theorem MY {fs:List (Str×Dt)} (h:Ve t ρ μ x) (e:pN μ x=some (C,fs)) (k:∀ (q:DQ) (x':Addr→List (Str×Dt)→Mu→Prop),q d μ→sp [x] μ q x'):Ve (OF (Jl C sp) t) ρ μ d:=fun q k'=>h _ ⟨⟨_,e⟩,k _ _ k'⟩
theorem B6 {ι:Type} {p:ι→Prop} {f:ι→DE} (i:ι) (hi:p i) (h:Ve (f i) ρ μ d):Ve (T4 p f) ρ μ d:=fun q k=>⟨i,hi,h q k⟩
theorem AV {f:Str} {fs:List (Str×Dt)} (h:Ve t ρ μ x) (e:pN μ x=some (C,fs)) (l:fs.lookup f=some d):Ve (Jf C f t) ρ μ d:=fun q k=>h _ ⟨_,_,e,l,k⟩
theorem G6 {f:Str} {fs:List (Str×Dt)} (h:Ve t ρ μ x) (e:pN μ x=some (C,fs)) (l:fs.lookup f=none):Ve (Pe C f d t) ρ μ d:=fun q k=>h _ ⟨⟨_,e,l⟩,k⟩
theorem mK {kvs:List (Key×Dt)} {k:Key} (h:Ve t ρ μ x) (g:Ve u ρ μ y) (e1:oE μ x=some kvs) (e2:uC y=some k) (e3:valD kvs k=some d):Ve (FW t u) ρ μ d:=fun q k'=>h _ (g _ ⟨_,_,_,e1,e2,e3,k'⟩)
theorem zo {t2:DE} {kvs:List (Key×Dt)} {k:Key} (h:Ve t ρ μ x) (g:Ve u ρ μ y) (f:Ve t2 ρ μ z) (e1:oE μ x=some kvs) (e2:uC y=some k):Ve (G0 t u t2) ρ μ ((valD kvs k).getD z):=fun q k'=>h _ ⟨⟨_,e1⟩,g _ (f _ ⟨_,_,e1,e2,k'⟩)⟩
theorem xX {i:Int} (h:Ve t ρ μ (.tup ds)) (g:Ve u ρ μ (.int i)) (e:atI ds i=some d):Ve (KW OC t u) ρ μ d:=fun q k=>h _ (g _ ⟨_,_,_,rfl,rfl,e,k⟩)
theorem MZ {n:Nat} (h:Ve t ρ μ x) (e:Mv μ x=some n) (l:∀ z,x=.str z→z.length≤sizeLine):Ve (xJ Jm (bD t fk)) ρ μ (.int n):=fun q k=>h _ ⟨_,_,rfl,e,l,k⟩
theorem G7 {kvs:List (Key×Dt)} (h:Ve t ρ μ x) (e:oE μ x=some kvs):Ve (xJ GV (bD t fk)) ρ μ (.lst (kvs.map fun kv=>wA kv.1)):=fun q k=>h _ ⟨_,_,rfl,e,k⟩
theorem B7 {z:Str} (h:Ve t ρ μ (.str z)):Ve (xJ K9 (bD t fk)) ρ μ (.str z):=fun q k=>h _ ⟨_,rfl,k⟩
theorem JR {i:Int} (h:Ve t ρ μ (.int i)):Ve (xJ K0 (bD t fk)) ρ μ (.int i):=fun q k=>h _ (.inl ⟨_,rfl,k⟩)
theorem r9 {bs:List Bool} (h:Ve t ρ μ (.lst (bs.map Dt.bl))):Ve (xJ Mx (bD t fk)) ρ μ (.bl (bs.all id)):=fun q k=>h _ ⟨_,rfl,k⟩
theorem uP {s:String} (hs:s∈iw) (h:Ve t ρ μ x) (k:r7 K μ x):Ve (xJ (Ic K) (bD t (bD (dC (.raw (.ty s))) fk))) ρ μ (.bl (isT s x)):=fun q k'=>h _ (BP hs k k')
theorem G8 (o:pB K C) (h:Ve t ρ μ x) (e:yU C μ x):Ve (xJ (Ic K) (bD t (bD (dC (.raw (.ref C))) fk))) ρ μ (.bl true):=fun q k'=>h _ (uG o e k')
def Vi (ti:DI) (ρ:Ev) (μ:Mu) (ds:List Dt):Prop:=∀ q:List Dt→Mu→Prop,q ds μ→ti ρ μ q
theorem B9 (h:Ve t ρ μ (.lst ds)):Vi (xN t) ρ μ ds:=fun q k=>h _ ⟨_,rfl,k⟩
theorem mL {kvs:List (Key×Dt)} (h:Ve t ρ μ (.dct kvs)):Vi (uM t) ρ μ (kvs.map fun kv=>wA kv.1):=fun q k=>h _ ⟨_,rfl,k⟩
theorem zp {kvs:List (Key×Dt)} (h:Ve t ρ μ (.dct kvs)):Vi (GO t) ρ μ (kvs.map fun kv=>.tup [wA kv.1,kv.2]):=fun q k=>h _ ⟨_,rfl,k⟩
theorem mO {ti:DI} (h:Vi ti ρ μ ds) (e:ds=es):Vi ti ρ μ es:=e▸h
def Vg (g:DG) (x:Dt) (ρ:Ev) (μ:Mu) (ρ':Ev):Prop:=∀ q:Ev→Mu→Prop,q ρ' μ→g x ρ μ q
theorem g7 {n:Nat}:Vg (iG n) x ρ μ (ρ.set n (some x)):=fun q k=>k
theorem xY {i j:Nat}:Vg (F5 2 (xM (iG i) (xM (iG j) F4))) (.tup [x,y]) ρ μ ((ρ.set i (some x)).set j (some y)):=fun q k=>⟨_,rfl,rfl,_,_,rfl,_,_,rfl,rfl,k⟩
theorem mP {α:Type} {ti:DI} {g:DG} {te:DE} {vs:List Nat} {as:List α} (i f:α→Dt) (ρ':α→Ev) (h:Vi ti ρ μ (as.map i)) (l:as.length≤sizeLine) (hg:∀ a∈as,Vg g (i a) (j5 ρ vs) μ (ρ' a)) (k:∀ a∈as,Ve te (ρ' a) μ (f a)):Ve (NS ti g AK te vs) ρ μ (.lst (as.map f)):=fun q k'=>h _ ⟨by simpa using l,by
 refine ⟨⟨fun n acc μ'=>μ'=μ∧acc=(as.take n).map f,⟨rfl,rfl⟩,?_,?_⟩⟩
 ·rintro n x acc μ' ⟨rfl,rfl⟩ hx
  rw [List.getElem?_map] at hx
  obtain ⟨a,ha,rfl⟩:=Option.map_eq_some_iff.mp hx
  have m:a∈as:=List.mem_of_getElem? ha
  refine hg a m _ ?_
  show te (ρ' a) μ' _
  refine k a m _ ⟨rfl,?_⟩
  rw [List.take_succ,ha]
  simp
 ·rintro acc μ' ⟨rfl,rfl⟩
  have e:(as.take (as.map i).length).map f=as.map f:=by simp
  rw [e]
  exact k'⟩
theorem G9 {α:Type} {ti:DI} {g:DG} {tt:DT} {te:DE} {vs:List Nat} {as:List α} (i f:α→Dt) (p:α→Bool) (ρ':α→Ev) (h:Vi ti ρ μ (as.map i)) (l:as.length≤sizeLine) (hg:∀ a∈as,Vg g (i a) (j5 ρ vs) μ (ρ' a)) (ht:∀ a∈as,Vt tt (ρ' a) μ (p a)) (k:∀ a∈as,p a=true→Ve te (ρ' a) μ (f a)):Ve (NS ti g tt te vs) ρ μ (.lst ((as.filter p).map f)):=fun q k'=>h _ ⟨by simpa using l,by
 refine ⟨⟨fun n acc μ'=>μ'=μ∧acc=((as.take n).filter p).map f,⟨rfl,rfl⟩,?_,?_⟩⟩
 ·rintro n x acc μ' ⟨rfl,rfl⟩ hx
  rw [List.getElem?_map] at hx
  obtain ⟨a,ha,rfl⟩:=Option.map_eq_some_iff.mp hx
  have m:a∈as:=List.mem_of_getElem? ha
  refine hg a m _ ?_
  refine ht a m _ ?_
  have e:(as.take (n+1))=as.take n++[a]:=by rw [List.take_succ,ha];simp
  cases hp:p a with
  |true=>
   rw [if_pos rfl]
   refine k a m hp _ ⟨rfl,?_⟩
   rw [e]
   simp [hp]
  |false=>
   rw [if_neg (by decide)]
   refine ⟨rfl,?_⟩
   rw [e]
   simp [hp]
 ·rintro acc μ' ⟨rfl,rfl⟩
  have e:((as.take (as.map i).length).filter p).map f=(as.filter p).map f:=by simp
  rw [e]
  exact k'⟩
theorem Hf {α:Type} {ti:DI} {g:DG} {tk tv:DE} {vs:List Nat} {as:List α} (i kx vx:α→Dt) (kk:α→Key) (ρ':α→Ev) (h:Vi ti ρ μ (as.map i)) (l:as.length≤sizeLine) (hg:∀ a∈as,Vg g (i a) (j5 ρ vs) μ (ρ' a)) (hk:∀ a∈as,Ve tk (ρ' a) μ (kx a)∧Ve tv (ρ' a) μ (vx a)∧uC (kx a)=some (kk a)) (nd:(as.map kk).Nodup) :
  Ve (T5 ti g AK tk tv vs) ρ μ (.dct (as.map fun a=>(kk a,vx a))):=fun q k'=>h _ ⟨by simpa using l,by
 refine ⟨⟨fun n acc μ'=>μ'=μ∧acc=(as.take n).map fun a=>(kk a,vx a),⟨rfl,rfl⟩,?_,?_⟩⟩
 ·rintro n x acc μ' ⟨rfl,rfl⟩ hx
  rw [List.getElem?_map] at hx
  obtain ⟨a,ha,rfl⟩:=Option.map_eq_some_iff.mp hx
  have m:a∈as:=List.mem_of_getElem? ha
  obtain ⟨k1,k2,k3⟩:=hk a m
  refine hg a m _ ?_
  show tk (ρ' a) μ' _
  refine k1 _ (k2 _ ⟨_,k3,rfl,?_⟩)
  have e:(as.take (n+1))=as.take n++[a]:=by rw [List.take_succ,ha];simp
  have hl:n<as.length:=(List.getElem?_eq_some_iff.mp ha).1
  have ne:∀ b∈as.take n,kk b≠kk a:=by
   intro b hb z
   obtain ⟨j,hj⟩:=List.mem_iff_getElem?.mp hb
   have hjl:j<n:=by
    have:=(List.getElem?_eq_some_iff.mp hj).1
    simp at this
    omega
   rw [List.getElem?_take_of_lt hjl] at hj
   have e1:(as.map kk)[j]? = some (kk b):=by rw [List.getElem?_map,hj];rfl
   have e2:(as.map kk)[n]? = some (kk a):=by rw [List.getElem?_map,ha];rfl
   rw [z,← e2] at e1
   have q:j=n:=(List.getElem?_inj (l:=as.map kk) (i:=j) (j:=n) (by simp;omega) nd).mp e1
   omega
  unfold gZ
  rw [if_neg,e]
  ·simp
  ·intro z
   obtain ⟨p,hp,hq⟩:=List.any_eq_true.mp z
   obtain ⟨b,hb,rfl⟩:=eX hp
   exact ne b hb (by simpa using hq)
 ·rintro acc μ' ⟨rfl,rfl⟩
  have e:(as.take (as.map i).length).map (fun a=>(kk a,vx a))=as.map fun a=>(kk a,vx a):=by simp
  rw [e]
  exact k'⟩
theorem Ca {ti:DI} {gd:DG} {s:DS} {E:gX} (V:Vi ti ρ μ ds) (h:NQ gd s E ds ρ μ):Jt ti gd s E ρ μ:=V _ h
end
section
variable [MK] {ρ:Ev} {μ:Mu} {t u:DE} {q:DQ} {w:XQ}
theorem sd {i:Int} (h:Ve t ρ μ (.int i)):Ve (OF OG t) ρ μ (.int (-i)):=fun q k=>h _ ⟨_,rfl,k⟩
theorem Cb {i n:Nat} {p:Addr} {ms:List Int} (hv:ρ[i]? = some (some (.raw (.ref p)))) (V:Ve t ρ μ (.lst (ms.map Dt.int))) (hp:μ p=some (.jD n)) (hn:n≤1000000000) (h0:0<ms.length) (h1:ms.length≤1000000) (k:∀ m∈ms,q (.int m) (aJ μ p (.jD (n+1)))):dG y9 [] w (bD (kX i) (bD t fk)) ρ μ q:=
 oH hv V hp hn (by simpa using h0) (by simpa using h1) fun d hd=>by
  obtain ⟨m,hm,rfl⟩:=eX hd
  exact k m hm
theorem JS {i n:Nat} {p:Addr} {ms:List Str} (hv:ρ[i]? = some (some (.raw (.ref p)))) (V:Ve t ρ μ (.lst (ms.map Dt.str))) (hp:μ p=some (.jD n)) (hn:n≤1000000000) (h0:0<ms.length) (h1:ms.length≤1000000) (k:∀ m∈ms,q (.str m) (aJ μ p (.jD (n+1)))):dG y9 [] w (bD (kX i) (bD t fk)) ρ μ q:=
 oH hv V hp hn (by simpa using h0) (by simpa using h1) fun d hd=>by
  obtain ⟨m,hm,rfl⟩:=eX hd
  exact k m hm
theorem Ph {ta:DA} (h:ta ρ μ fun ds μ1=>ds.length≤sizeLine∧q (.tup ds) μ1):Mj ta ρ μ q:=h
theorem NT {r:zY} {ta:DA} (h:ta ρ μ fun ds μ1=>r ds μ1 q):xJ r ta ρ μ q:=h
theorem RQ {g:DG} {tt:DT} {te:DE} {vs:List Nat} {ds:List Dt} (V:Ve t ρ μ (.lst ds)) (l:ds.length≤sizeLine) (h:NR g tt te (j5 ρ vs) q ds μ):NS (xN t) g tt te vs ρ μ q:=V _ ⟨_,rfl,l,h⟩
end
section
variable [MK] {ρ:Ev} {μ:Mu} {c u:DT} {q:Bool→Mu→Prop}
theorem Pj (h:c ρ μ fun b μ1=>q (!b) μ1):Mp c ρ μ q:=h
end
theorem Cc (k:Int):(xO 0 k.toNat).length=k.toNat:=by simp [xO]
theorem iH {μ:Mu} {a b:Addr} {o u:MO} (h:a≠b):aJ (aJ μ a o) b u=aJ (aJ μ b u) a o:=by
 funext c
 unfold aJ
 by_cases h1:c=b
 ·subst h1
  rw [if_pos rfl,if_neg (fun e=>h e.symm),if_pos rfl]
 ·rw [if_neg h1,if_neg h1]
section
variable [MK] {K:Frag} {B:Pt}
def M3 (i:Nat) (t:DE):DE:=fun ρ μ q=>t ρ μ fun y μ1=>∃ p,ρ[i]? = some (some (.raw (.ref p)))∧q y (iD μ1 p)
theorem Hg {i:Nat} {te:TE} {t:DE} (a:cG K B te t):cG K B te (M3 i t):=fun σ P ρ Q q hB hE h k=>
 a σ P ρ _ _ hB hE h fun v x P1 s1 r1 ⟨p,e,hq⟩=>k v x ⟨P1.G,P1.H,iD P1.μ p⟩ (s1.trans (.drop s1.sat)) r1 hq
end
theorem M4 {μ:Mu} {a:Addr} {ds:List Dt} (h:μ a=some (.lst ds)):Mv μ (.raw (.ref a))=some ds.length:=by
 show (match μ a with |some (.lst ds)=>some ds.length |_=>none)=_
 rw [h]
theorem JT {μ:Mu} {a:Addr} {ds:List (Key×Dt)} (h:μ a=some (.dct ds)):oE μ (.raw (.ref a))=some ds:=by
 show (match μ a with |some (.dct ds)=>some ds |_=>none)=_
 rw [h]
theorem Cd {μ:Mu} {a C:Addr} {fs:List (Str×Dt)} (h:μ a=some (.ins C fs)):pN μ (.raw (.ref a))=some (C,fs):=by
 show (match μ a with |some (.ins C fs)=>some (C,fs)|_=>none)=_
 rw [h]
theorem erase_perm {α:Type}:∀ {l:List α} {i:Nat} (h:i<l.length),(l[i]::l.eraseIdx i).Perm l
 |x::l,0,_=>.refl _
 |x::l,i+1,h=>by
  have hi:i<l.length:=by simpa using h
  have:=erase_perm (l:=l) (i:=i) hi
  exact (List.Perm.swap x l[i] _).trans (this.cons x)
theorem wF {α β:Type} (f:α→β):∀ (l:List α) (i:Nat),(l.map f).eraseIdx i=(l.eraseIdx i).map f
 |[],_=>rfl
 |_::_,0=>rfl
 |x::l,i+1=>by
  simp only [List.map_cons,List.eraseIdx_cons_succ]
  rw [wF f l i]
theorem zu {α:Type} (kk:α→Key) (vx:α→Dt) (k:Key):∀ as:List α,valD (as.map fun a=>(kk a,vx a)) k=(as.find? fun a=>decide (kk a=k)).map vx
 |[]=>rfl
 |a::as=>by
  unfold valD
  rw [List.map_cons]
  by_cases h:kk a=k
  ·rw [List.find?_cons_of_pos (by simpa using h),List.find?_cons_of_pos (by simpa using h)]
   rfl
  ·rw [List.find?_cons_of_neg (by simpa using h),List.find?_cons_of_neg (by simpa using h)]
   exact zu kk vx k as
theorem sO:∀ (ds acc:List (Key×Dt)),(∀ p∈ds,∀ q∈acc,q.1≠p.1)→(ds.map (·.1)).Nodup→mH acc ds=acc++ds
 |[],acc,_,_=>by simp [mH]
 |d::ds,acc,h,n=>by
  rw [List.map_cons,List.nodup_cons] at n
  have e:gZ acc d.1 d.2=acc++[d]:=by
   unfold gZ
   rw [if_neg]
   intro z
   obtain ⟨p,hp,hq⟩:=List.any_eq_true.mp z
   exact h d List.mem_cons_self p hp (by simpa using hq)
  show mH (gZ acc d.1 d.2) ds=_
  rw [e,sO ds _ (fun p hp q hq=>?_) n.2,List.append_assoc]
  ·rfl
  ·rcases List.mem_append.mp hq with hq |hq
   ·exact h p (List.mem_cons_of_mem _ hp) q hq
   ·rw [List.mem_singleton.mp hq]
    exact fun z=>n.1 (by rw [z];exact List.mem_map.mpr ⟨p,hp,rfl⟩)
theorem pq {ds:List (Key×Dt)} (n:(ds.map (·.1)).Nodup):mH [] ds=ds:=by
 rw [sO ds [] (fun _ _ q hq=>by cases hq) n]
 rfl
end HS
namespace HS
open PySem PySem.Spec PyProof.Rows L2
section
variable [MK] {K:Frag} {ρ:Ev} {μ:Mu} {t:DE} {q:DQ}
theorem T9 {ss:List Str} (h:Ve t ρ μ (.lst (ss.map Dt.str))) (l:ss.length<64) (k:∀ ys:List Str,ys.Perm ss→sortedS ys=true→q (.lst (ys.map Dt.str)) μ):xJ qU (bD t fk) ρ μ q:=h _ ⟨_,ss,rfl,rfl,rfl,l,k⟩
theorem Pn {α:Type} {g:DG} {tk tv:DE} {as:List α} (i kx vx:α→Dt) (kk:α→Key) (ρ':α→Ev) (l:as.length≤sizeLine) (hg:∀ a∈as,Vg g (i a) ρ μ (ρ' a)) (hk:∀ a∈as,Ve tk (ρ' a) μ (kx a)∧Ve tv (ρ' a) μ (vx a)∧uC (kx a)=some (kk a)) (nd:(as.map kk).Nodup) (k':q (.dct (as.map fun a=>(kk a,vx a))) μ) :
  RM g AK tk tv ρ q (as.map i) μ:=by
 have h:=Hf (ti:=fun _ μ q=>q (as.map i) μ) (vs:=[]) (g:=g) (tk:=tk) (tv:=tv) (ρ:=ρ) (μ:=μ) i kx vx kk ρ' (fun q k=>k) l hg hk nd q k'
 exact h.2
end
theorem qV {a b c:List Nat} (h:¬ b<a) (g:¬ c<b):¬ c<a:=fun z=>by
 have h1:a≤b:=List.not_lt.mp h
 have h2:b≤c:=List.not_lt.mp g
 exact List.not_lt.mpr (List.le_trans h1 h2) z
theorem wG:∀ {r:List Str} {p:Str},risingS p r=true→(p::r).Pairwise fun x y=>¬ y.cps.toList<x.cps.toList
 |[],_,_=>List.pairwise_singleton _ _
 |x::r,p,h=>by
  unfold risingS at h
  rw [Bool.and_eq_true,Bool.not_eq_true',ltCps_eq] at h
  have hx:¬ x.cps.toList<p.cps.toList:=by simpa using h.1
  have ih:=wG h.2
  refine List.Pairwise.cons (fun y hy=>?_) ih
  rcases List.mem_cons.mp hy with rfl |hy
  ·exact hx
  ·exact qV hx ((List.pairwise_cons.mp ih).1 y hy)
theorem se {ys:List Str} (h:sortedS ys=true):ys.Pairwise fun x y=>¬ y.cps.toList<x.cps.toList:=by
 cases ys with
 |nil=>exact .nil
 |cons x r=>exact wG h
theorem wH:∀ {r:List Str} {p:Str},((p::r).Pairwise fun x y=>¬ y.cps.toList<x.cps.toList)→risingS p r=true
 |[],_,_=>rfl
 |x::r,p,h=>by
  unfold risingS
  rw [Bool.and_eq_true,Bool.not_eq_true',ltCps_eq]
  obtain ⟨h1,h2⟩:=List.pairwise_cons.mp h
  exact ⟨by simpa using h1 x List.mem_cons_self,wH h2⟩
theorem wI {ys:List Str} (h:ys.Pairwise fun x y=>¬ y.cps.toList<x.cps.toList):sortedS ys=true:=by
 cases ys with
 |nil=>rfl
 |cons x r=>exact wH h
def iY (ys:List Str):List Str:=ys.mergeSort fun a b=>!decide (b.cps.toList<a.cps.toList)
theorem cK (ys:List Str):(iY ys).Perm ys:=List.mergeSort_perm ys _
theorem qW (ys:List Str):sortedS (iY ys)=true:=by
 refine wI ?_
 have h:=List.pairwise_mergeSort (le:=fun a b:Str=>!decide (b.cps.toList<a.cps.toList)) (fun a b c h1 h2=>by
  simp only [Bool.not_eq_true',decide_eq_false_iff_not] at h1 h2 ⊢
  exact qV h1 h2) (fun a b=>by
  simp only [Bool.or_eq_true,Bool.not_eq_true',decide_eq_false_iff_not]
  by_cases h:b.cps.toList<a.cps.toList
  ·exact .inr (List.not_lt.mpr (List.le_of_lt h))
  ·exact .inl h) ys
 exact h.imp fun h=>by simpa using h
section
variable [MK] {K:Frag} {ρ:Ev} {μ:Mu} {t:DE}
theorem qX {ys zs:List Str} (p:ys.Perm zs) (h:sortedS ys=true) (g:sortedS zs=true):ys=zs:=by
 refine List.Perm.eq_of_pairwise ?_ (se h) (se g) p
 intro a b _ _ h1 h2
 exact Jz (List.le_antisymm (List.not_lt.mp h1) (List.not_lt.mp h2))
theorem Dj {ss ys:List Str} (h:Ve t ρ μ (.lst (ss.map Dt.str))) (l:ss.length<64) (p:ys.Perm ss) (g:sortedS ys=true):Ve (xJ qU (bD t fk)) ρ μ (.lst (ys.map Dt.str)):=fun q k=>T9 h l fun zs p' g'=>by
 rw [qX (p'.trans p.symm) g' g]
 exact k
end
section
variable [MK] {ρ:Ev} {μ:Mu} {t:DE}
theorem Hh {ss:List Str} (h:Ve t ρ μ (.lst (ss.map Dt.str))) (l:ss.length<64):Ve (xJ qU (bD t fk)) ρ μ (.lst ((iY ss).map Dt.str)):=Dj h l (cK ss) (qW ss)
end
def bO:Dt→Bool
 |.str z=>decide (1≤z.length)&&decide (z.length≤8)&&z.cps.toList.all fun c=>decide (c∈(Str.ofString "abcdefghijklmnopqrstuvwxyz").cps.toList)
 |_=>false
def JU (v:Dt) (lo hi:Int):Bool:=match v with
 |.int i=>decide (lo≤i)&&decide (i≤hi)
 |_=>false
def fB (v:Dt) (m:Int):Bool:=match v with
 |.int i=>decide (0 - m≤i)&&decide (i≤m)&&decide (i≠0)
 |_=>false
theorem Hi {z:Str} (h:bO (.str z)=true):z.length≤8:=by
 simp [bO] at h
 omega
theorem jE {z:Str} (h:bO (.str z)=true):z.length≤sizeLine:=Nat.le_trans (Hi h) (by decide)
def nR (ts:List (Str×Int)):List (Key×Dt):=ts.map fun t=>(.inr t.1,.int t.2)
def Ua:Str:=Str.ofString "own_parts"
def kZ (ts:List (Str×Int)):Prop:=(∀ t∈ts,bO (.str t.1)=true∧fB (.int t.2) 9=true)∧(ts.map (·.1)).Nodup∧ts.length≤12
def Dk (ts us:List (Str×Int)):Prop:=us.Perm ts∧sortedS (us.map (·.1))=true
def oK (ts:List (Str×Int)) (z:Str):Int:=((ts.find? fun t=>decide (t.1=z)).map (·.2)).getD 0
def zv (C:Addr) (ts:List (Str×Int)) (r:List (Str×Dt)):Dt:=.ins C ((Ua,.dct (nR ts))::r)
theorem xZ (ts:List (Str×Int)):(nR ts).map (fun kv=>wA kv.1)=ts.map fun t=>Dt.str t.1:=by
 unfold nR
 rw [List.map_map]
 rfl
theorem uQ {ts:List (Str×Int)} (h:(ts.map (·.1)).Nodup):((nR ts).map (·.1)).Nodup:=by
 unfold nR
 rw [List.map_map]
 have:((fun x:Key×Dt=>x.1) ∘ fun t:Str×Int=>((.inr t.1:Key),Dt.int t.2))=(fun z:Str=>(.inr z:Key)) ∘ (fun t:Str×Int=>t.1):=rfl
 rw [this,← List.map_map]
 exact h.map _ fun _ _ n e=>n (Sum.inr.inj e)
theorem Dl {ts:List (Str×Int)} (h:(ts.map (·.1)).Nodup):(ts.map fun t=>(.inr t.1:Key)).Nodup:=by
 have e:=uQ h
 unfold nR at e
 rw [List.map_map] at e
 exact e
theorem M5 (ts:List (Str×Int)) (z:Str):valD (nR ts) (.inr z)=(ts.find? fun t=>decide (t.1=z)).map fun t=>Dt.int t.2:=by
 unfold nR
 rw [zu]
 congr 2
 funext t
 congr 1
 exact propext ⟨Sum.inr.inj,fun e=>by rw [e]⟩
theorem uR:∀ {ts:List (Str×Int)} {t:Str×Int},(ts.map (·.1)).Nodup→t∈ts→ts.find? (fun u=>decide (u.1=t.1))=some t
 |u::ts,t,n,h=>by
  rw [List.map_cons,List.nodup_cons] at n
  rcases List.mem_cons.mp h with rfl |e
  ·rw [List.find?_cons_of_pos (by simp)]
  ·rw [List.find?_cons_of_neg,uR n.2 e]
   intro z
   exact n.1 (by rw [aN z];exact List.mem_map.mpr ⟨t,e,rfl⟩)
theorem oM {ts:List (Str×Int)} {t:Str×Int} (n:(ts.map (·.1)).Nodup) (h:t∈ts):oK ts t.1=t.2:=by
 unfold oK
 rw [uR n h]
 rfl
theorem qw {ts:List (Str×Int)} {t:Str×Int} (n:(ts.map (·.1)).Nodup) (h:t∈ts):valD (nR ts) (.inr t.1)=some (.int t.2):=by
 rw [M5,uR n h]
 rfl
theorem find_none {ts:List (Str×Int)} {z:Str} (h:z∉ts.map (·.1)):ts.find? (fun u=>decide (u.1=z))=none:=by
 rw [List.find?_eq_none]
 intro t ht e
 exact h (List.mem_map.mpr ⟨t,ht,aN e⟩)
theorem wJ {ts:List (Str×Int)} {z:Str} (h:z∉ts.map (·.1)):oK ts z=0:=by
 unfold oK
 rw [find_none h]
 rfl
theorem Dm {ts us:List (Str×Int)} (p:us.Perm ts) (n:(ts.map (·.1)).Nodup) (z:Str):oK us z=oK ts z:=by
 have n':(us.map (·.1)).Nodup:=(p.map (·.1)).nodup_iff.mpr n
 by_cases h:z∈us.map (·.1)
 ·obtain ⟨t,ht,rfl⟩:=eX h
  rw [oM n' ht,oM n (p.mem_iff.mp ht)]
 ·have h':z∉ts.map (·.1):=fun e=>h ((p.map (·.1)).mem_iff.mpr e)
  rw [wJ h,wJ h']
theorem kZ.perm {ts us:List (Str×Int)} (h:kZ ts) (p:us.Perm ts):kZ us:=
 ⟨fun t ht=>h.1 t (p.mem_iff.mp ht),(p.map (·.1)).nodup_iff.mpr h.2.1,by rw [p.length_eq];exact h.2.2⟩
theorem AW:∀ ts:List (Str×Int),tL (ts.map fun t=>Dt.tup [.str t.1,.int t.2])=some (nR ts)
 |[]=>rfl
 |t::ts=>by
  rw [List.map_cons]
  unfold tL
  rw [AW ts]
  rfl
theorem Hj {ts:List (Str×Int)} {ys:List Str} (n:(ts.map (·.1)).Nodup) (p:ys.Perm (ts.map (·.1))) (s:sortedS ys=true):Dk ts (ys.map fun y=>(y,oK ts y)):=by
 constructor
 ·have q:=p.map fun y=>(y,oK ts y)
  rw [List.map_map] at q
  have e:(ts.map ((fun y=>(y,oK ts y)) ∘ fun t=>t.1))=ts:=by
   conv=>rhs;rw [← List.map_id ts]
   exact List.map_congr_left fun t ht=>by
    show (t.1,oK ts t.1)=t
    rw [oM n ht]
  rw [e] at q
  exact q
 ·rw [List.map_map]
  have e:ys.map ((fun t:Str×Int=>t.1) ∘ fun y=>(y,oK ts y))=ys:=by
   conv=>rhs;rw [← List.map_id ys]
   rfl
  rw [e]
  exact s
def qY (ts:List (Str×Int)):List (Str×Int):=(iY (ts.map (·.1))).map fun y=>(y,oK ts y)
theorem uS {ts:List (Str×Int)} (n:(ts.map (·.1)).Nodup):Dk ts (qY ts):=Hj n (cK _) (qW _)
theorem zw [MK] {ts us:List (Str×Int)} (n:(ts.map (·.1)).Nodup) (h:Dk ts us):us=qY ts:=by
 have n':(us.map (·.1)).Nodup:=(h.1.map (·.1)).nodup_iff.mpr n
 have e1:us.map (·.1)=iY (ts.map (·.1)):=qX ((h.1.map _).trans (cK _).symm) h.2 (qW _)
 have e2:us=(us.map (·.1)).map fun y=>(y,oK ts y):=by
  rw [List.map_map]
  conv=>lhs;rw [← List.map_id us]
  refine List.map_congr_left fun t ht=>?_
  show t=(t.1,oK ts t.1)
  rw [← Dm h.1 n,oM n' ht]
 rw [e2,e1]
 rfl
theorem M6 (ts:List (Str×Int)) (ys:List Str):nR (ys.map fun y=>(y,oK ts y))=ys.map fun y=>((.inr y:Key),Dt.int (oK ts y)):=by
 unfold nR
 rw [List.map_map]
 rfl
end HS
namespace HS
open PySem PySem.Spec PyProof.Rows L2
section
variable {X:Cx} {K:Frag} {o:Expr} {e:Expr} {es:List Expr} {T name id:String} {to:TE} {t:TA} {apos cpos:Pos} {r:V→List V→Hp→VK→Prop}
theorem M7 (hK:X.K=K) (pa:PlainAttrs T) (slot:Slot T name id) (hty:typeOf (.builtin id)=pure (.type "method_descriptor")) (hm:MtR X id r) (ho:PE X o to) (ha:PA X (e::es) t)
  (hbase:attributeBase o name X.env (eval o X.env)=eval o X.env:=by rfl)
  (hfew:((backTo cpos (starEach (e::es) X.env)).all (fun x=>!x.1)&&(backToKw cpos (keywordEach [] X.env)).all (fun x=>x.1.isSome)
   && decide ((e::es).length+([]:List Keyword).length+(if ([]:List Keyword).isEmpty then 0 else 1)<30))=true:=by rfl)
  (hline:(apos.endLine == cpos.line)=true:=by rfl) (hs:starEach (e::es) X.env=(false,eval e X.env)::starEach es X.env:=by rfl) (hplain:(backTo cpos (starEach es X.env)).any (·.1)=false:=by rfl) :
  PE X (.Call (.Attribute o name apos) (e::es) [] cpos) (tBM K T r to t):=by
 subst hK
 exact pe_bm pa slot hty hm ho ha hbase hfew hline hs hplain
end
section
variable {X:Cx} {K:Frag}
theorem Dq (hK:X.K=K):CallR X (.builtin "len") (fun xs H Q=>∃ x n,xs=[x]∧LenV K x H n∧Q (.int n) H):=by subst hK;exact call_len
theorem Ce (hK:X.K=K):IxR X (rIxT K):=by subst hK;exact ix_tup
end
end HS
namespace HS
open PySem PySem.Spec PyProof.Rows L2
inductive ND:Dt→Prop
 |non:ND .non
 |bl (b:Bool):ND (.bl b)
 |int (i:Int):ND (.int i)
 |str (x:Str):ND (.str x)
 |raw (v:V):ND (.raw v)
 |lst {ds:List Dt} (h:∀ d∈ds,ND d):ND (.lst ds)
 |tup {ds:List Dt} (h:∀ d∈ds,ND d):ND (.tup ds)
 |ins {C:Addr} {fs:List (Str×Dt)} (h:∀ p∈fs,ND p.2):ND (.ins C fs)
def Qw:MO→Prop
 |.jD _=>True
 |.lst ds=>∀ d∈ds,ND d
 |.dct ds=>∀ p∈ds,ND p.2
 |.ins _ fs=>∀ p∈fs,ND p.2
 |.yS _=>False
def off (G:Hp) (p:Addr):Hp:=fun b=>if b=p then none else G b
theorem off_ne {G:Hp} {p b:Addr} (h:b≠p):off G p b=G b:=by unfold off;rw [if_neg h]
theorem uT {G:Hp} {p:Addr}:off G p p=none:=by unfold off;rw [if_pos rfl]
section
variable {K:Frag} {G:Hp} {p:Addr} {o:HO} {kvs:List (Key×V)}
theorem dh.offs:∀ {vs:List V} {ds:List Dt},dh K G vs ds→(∀ d∈ds,∀ v,Rp K G v d→Rp K (off G p) v d)→dh K (off G p) vs ds
 |_,_,.nil,_=>.nil
 |_,_,.cons h t,f=>.cons (f _ List.mem_cons_self _ h) (dh.offs t fun d hd=>f d (List.mem_cons_of_mem _ hd))
theorem qC.offs:∀ {vs:List (Str×V)} {ds:List (Str×Dt)},qC K G vs ds→(∀ d∈ds,∀ v,Rp K G v d.2→Rp K (off G p) v d.2)→qC K (off G p) vs ds
 |_,_,.nil,_=>.nil
 |_,_,.cons h t,f=>.cons (f _ List.mem_cons_self _ h) (qC.offs t fun d hd=>f d (List.mem_cons_of_mem _ hd))
theorem gW.offs:∀ {vs:List (Key×V)} {ds:List (Key×Dt)},gW K G vs ds→(∀ d∈ds,∀ v,Rp K G v d.2→Rp K (off G p) v d.2)→gW K (off G p) vs ds
 |_,_,.nil,_=>.nil
 |_,_,.cons h t,f=>.cons (f _ List.mem_cons_self _ h) (gW.offs t fun d hd=>f d (List.mem_cons_of_mem _ hd))
theorem Rp.off (hp:G p=some o) (hc:ct o=.dK kvs) {d:Dt} (n:ND d):∀ {v:V},Rp K G v d→Rp K (HS.off G p) v d:=by
 have ne:∀ {a:Addr} {u:HO},G a=some u→ct u≠.dK kvs→a≠p:=fun e h z=>by
  rw [z,hp] at e
  cases e
  exact h hc
 induction n with
 |non=>intro v r;cases r;exact .non
 |bl b=>intro v r;cases r;exact .bl b
 |int b=>intro v r;cases r;exact .int b
 |str b=>intro v r;cases r;exact .str b
 |raw w=>intro v r;cases r;exact .raw _
 |lst h ih=>
  intro v r
  cases r with
  |lst e m t=>exact .lst ((off_ne (ne e (fun z=>nomatch z))).trans e) m (t.offs fun d hd v r=>ih d hd r)
 |tup h ih=>
  intro v r
  cases r with
  |tup _ t e=>
   have e':=(off_ne (ne e (fun z=>nomatch z))).trans e
   exact .tup (.inl (.inl e')) (t.offs fun d hd v r=>ih d hd r) e'
 |ins h ih=>
  intro v r
  cases r with
  |ins e t=>exact .ins ((off_ne (ne e (fun z=>nomatch z))).trans e) (t.offs fun d hd v r=>ih d hd r)
end
section
variable [MK] {K:Frag} {B:Pt}
theorem BB.off {G H H':Hp} {p a:Addr} {o:HO} {kvs:List (Key×V)} {m:MO} (hp:G p=some o) (hc:ct o=.dK kvs) (n:Qw m) (h:BB K G H a m) (e:∀ u,H a=some u→H' a=some u):BB K (HS.off G p) H' a m:=by
 cases m with
 |jD k=>
  obtain ⟨c,ns,b,g,h1,h2,r⟩:=h
  have nc:c≠p:=fun z=>by
   rw [z,hp] at h2
   cases h2
   cases hc
  exact ⟨c,ns,b,g,e _ h1,(off_ne nc).trans h2,r⟩
 |lst ds=>obtain ⟨vs,h1,h2,t⟩:=h;exact ⟨vs,e _ h1,h2,t.offs fun d hd v r=>r.off hp hc (n d hd)⟩
 |dct ds=>obtain ⟨vs,h1,t⟩:=h;exact ⟨vs,e _ h1,t.offs fun d hd v r=>r.off hp hc (n d hd)⟩
 |ins C ds=>obtain ⟨dx,vs,h1,t⟩:=h;exact ⟨dx,vs,e _ h1,t.offs fun d hd v r=>r.off hp hc (n d hd)⟩
 |yS ds=>exact n.elim
def Hl (i:Nat) (t:DE):DE:=fun ρ μ q=>∃ p ds,ρ[i]? = some (some (.raw (.ref p)))∧μ p=some (.dct ds)∧t (ρ.set i (some (.dct ds))) (iD μ p) fun d μ'=>ND d∧(∀ a o,μ' a=some o→Qw o)∧q d (aJ μ' p (.dct ds))
theorem uU {i:Nat} {te:TE} {t:DE} (a:cG K B te t):cG K B (tLockE te) (Hl i t):=fun σ P ρ Q q hB hE ⟨p,ds,e,hm,h⟩ k=>by
 have s:=hB.sat
 obtain ⟨hg,kvs,hh,t0⟩:=s.mu p _ hm
 refine ⟨p,.dK kvs,hh,trivial,fun od=>?_⟩
 have VQ:∀ {a:Addr} {u:HO},P.G a=some u→a≠p:=fun e z=>by rw [z,hg] at e;cases e
 have S1:Step K P ⟨upd P.G p (.frz od (.dK kvs)),upd P.H p (.frz od (.dK kvs)),iD P.μ p⟩:=by
  refine ⟨.upd hg,⟨s.sub.I7,fun b o' e=>?_,mC s.sys rfl,j4 s.tabs (fun u e=>by rw [hh] at e;cases e;rfl),oB s.gt rfl⟩,fun b o' e1 _ e2 e3=>?_,fun b x v e=>?_⟩
  ·have e':(if b=p then Option.none else P.μ b)=some o':=e
   by_cases n:b=p
   ·rw [if_pos n] at e';cases e'
   ·rw [if_neg n] at e'
    obtain ⟨h1,h2⟩:=s.mu b o' e'
    exact ⟨by show upd P.G p _ b=_;rw [upd_ne n];exact h1,h2.sf (.upd hg) fun v q=>by show upd P.H p _ b=_;rw [upd_ne n];exact q⟩
  ·have n:b≠p:=fun z=>by rw [z,hm] at e3;cases e3
   exact ⟨by show upd P.H p _ b=_;rw [upd_ne n];exact e1,by show upd P.G p _ b=_;rw [upd_ne n];exact e2,by show (if b=p then Option.none else P.μ b)=_;rw [if_neg n];exact e3⟩
  ·have n:b≠p:=fun z=>by rw [z,hh] at e;cases e
   show upd P.H p _ b=_
   rw [upd_ne n]
   exact e
 obtain ⟨v0,ev,rv⟩:=hE.2 i _ e
 obtain rfl:=kY rv
 have E1:Env K (upd P.G p (.frz od (.dK kvs))) σ (ρ.set i (some (.dct ds))):=by
  have z:=(hE.sf S1.sf).set (i:=i) (v:=.ref p) (d:=.dct ds) (.dct upd_same rfl (t0.sf S1.sf))
  rw [oJ ev] at z
  exact z
 refine a σ _ _ _ _ (hB.trans S1) E1 h fun v d P2 S2 r ⟨nd,nm,hq⟩=>?_
 have l2:P2.H p=some (.frz od (.dK kvs)):=S2.lk p od _ upd_same
 refine ⟨l2,?_⟩
 obtain ⟨o2,g2,c2⟩:=S2.sf p _ (show upd P.G p _ p=_ from upd_same)
 have m2:P2.μ p=none:=by
  cases z:P2.μ p with
  |none=>rfl
  |some o=>
   have:=(S2.sat.mu p o z).1
   rw [g2] at this
   cases this
 have c2':ct o2=.dK kvs:=c2
 have Ub:SF P.G (HS.off P2.G p):=fun a u e=>by
  have n:=VQ e
  obtain ⟨u',e1,e2⟩:=S2.sf a u (show upd P.G p _ a=_ by rw [upd_ne n];exact e)
  exact ⟨u',(off_ne n).trans e1,e2⟩
 have S3:Step K P ⟨HS.off P2.G p,upd P2.H p (.dK kvs),aJ P2.μ p (.dct ds)⟩:=by
  refine ⟨Ub,⟨fun a u e=>?_,fun a o e=>?_,mC S2.sat.sys rfl,j4 S2.sat.tabs (fun u e=>by rw [l2] at e;cases e;rfl),fun a u e=>?_⟩,fun a u e1 e0 e2 e3=>?_,fun a x u e=>?_⟩
  ·have n:a≠p:=fun z=>by
    have e':HS.off P2.G p a=some u:=e
    rw [z,uT] at e'
    cases e'
   obtain ⟨u',e1,e2⟩:=S2.sat.sub a u ((off_ne n).symm.trans e)
   exact ⟨u',by show upd _ _ _ _=_;rw [upd_ne n];exact e1,e2⟩
  ·by_cases n:a=p
   ·subst n
    have e':aJ P2.μ a (.dct ds) a=some o:=e
    rw [aq] at e'
    cases e'
    exact ⟨uT,kvs,upd_same,t0.sf Ub⟩
   ·have e':aJ P2.μ p (.dct ds) a=some o:=e
    rw [aX n] at e'
    obtain ⟨h1,h2⟩:=S2.sat.mu a o e'
    exact ⟨(off_ne n).trans h1,h2.off g2 c2' (nm a o e') fun u q=>by show upd _ _ _ _=_;rw [upd_ne n];exact q⟩
  ·have n:a≠p:=fun z=>by
    have e':HS.off P2.G p a=some u:=e
    rw [z,uT] at e'
    cases e'
   exact S2.sat.gt a u ((off_ne n).symm.trans e)
  ·have n:a≠p:=fun z=>by rw [z,hm] at e3;cases e3
   obtain ⟨h1,h2,h3⟩:=S2.fr a u (show upd P.H p _ a=_ by rw [upd_ne n];exact e1) e0 (show upd P.G p _ a=_ by rw [upd_ne n];exact e2) (show (if a=p then Option.none else P.μ a)=_ by rw [if_neg n];exact e3)
   exact ⟨by show upd _ _ _ _=_;rw [upd_ne n];exact h1,(off_ne n).trans h2,by show aJ _ _ _ _=_;rw [aX n];exact h3⟩
  ·have n:a≠p:=fun z=>by rw [z,hh] at e;cases e
   have h1:=S2.lk a x u (show upd P.H p _ a=_ by rw [upd_ne n];exact e)
   show upd _ _ _ _=_
   rw [upd_ne n]
   exact h1
 exact k v d _ S3 (r.off g2 c2' nd) hq
end
section
variable [MK] {K:Frag} {ρ:Ev} {μ:Mu} {t:DE} {d:Dt}
theorem Dr {p:Addr} {o:MO} (h:μ p=some o):aJ (iD μ p) p o=μ:=by
 funext b
 unfold aJ iD
 by_cases e:b=p
 ·rw [if_pos e,e,h]
 ·rw [if_neg e,if_neg e]
theorem JV {i:Nat} {p:Addr} {ds:List (Key×Dt)} (e:ρ[i]? = some (some (.raw (.ref p)))) (hm:μ p=some (.dct ds)) (n:ND d) (nm:∀ a o,μ a=some o→Qw o) (h:Ve t (ρ.set i (some (.dct ds))) (iD μ p) d):Ve (Hl i t) ρ μ d:=fun q k=>
 ⟨p,ds,e,hm,h _ ⟨n,fun a o z=>by
  unfold iD at z
  by_cases h:a=p
  ·rw [if_pos h] at z;cases z
  ·rw [if_neg h] at z;exact nm a o z,by rw [Dr hm];exact k⟩⟩
theorem M8 {p:Addr} {ds:List (Key×Dt)} (h:Ve t ρ μ (.raw (.ref p))) (hm:μ p=some (.dct ds)):Ve (xJ (Ic K) (bD t (bD (dC (.raw (.ty "dict"))) fk))) ρ μ (.bl true):=fun q k=>h _ ⟨⟨_,_,_,_,_,rfl,.ty "dict",.OP hm,kit_ty K (by decide) (.dict []),k⟩⟩
end
def lE (μ:Mu) (v:Dt) (ds:List (Key×Dt)):Prop:=v=.dct ds∨∃ p,v=.raw (.ref p)∧μ p=some (.dct ds)∧∀ a o,μ a=some o→Qw o
theorem lE.dct {μ:Mu} {v:Dt} {ds:List (Key×Dt)} (h:lE μ v ds):oE μ v=some ds:=by
 rcases h with rfl |⟨p,rfl,e,_⟩
 ·rfl
 ·exact JT e
section
variable [MK] {K:Frag} {ρ:Ev} {μ:Mu} {t u:DE} {d:Dt}
theorem lE.is {v:Dt} {ds:List (Key×Dt)} (h:lE μ v ds) (g:Ve t ρ μ v):Ve (xJ (Ic K) (bD t (bD (dC (.raw (.ty "dict"))) fk))) ρ μ (.bl true):=by
 rcases h with rfl |⟨p,rfl,e,_⟩
 ·exact uP (by decide) g (.dct _)
 ·exact M8 g e
theorem lE.ve {i:Nat} {v:Dt} {ds:List (Key×Dt)} (h:lE μ v ds) (e:ρ[i]? = some (some v)) (n:ND d) (g:∀ μ',(∀ a C fs,μ a=some (.ins C fs)→μ' a=some (.ins C fs))→Ve t (ρ.set i (some (.dct ds))) μ' d):Ve (JL t (Hl i t)) ρ μ d:=by
 rcases h with rfl |⟨p,rfl,hm,nm⟩
 ·have z:=g μ fun _ _ _ e=>e
  rw [oJ e] at z
  exact ua z
 ·refine B5 (JV e hm n nm (g _ fun a C fs e=>?_))
  unfold iD
  rw [if_neg,e]
  intro z
  rw [z,hm] at e
  cases e
end
end HS
namespace HS
open PySem PySem.Spec PyProof.Rows L2
section
variable [MK]
def M9 (K:Frag):iP:=fun ds μ q _=>∃ v lo hi,ds=[v,.int lo,.int hi]∧r7 K μ v∧q (.bl (JU v lo hi)) μ
def Na (K:Frag):iP:=fun ds μ q _=>∃ v,ds=[v]∧r7 K μ v∧(∀ z,v=.str z→z.length≤sizeLine)∧q (.bl (bO v)) μ
def Nb (K:Frag):iP:=fun ds μ q _=>∃ v m,ds=[v,.int m]∧r7 K μ v∧q (.bl (fB v m)) μ
def Nc (Cs:List Addr):iP:=fun ds μ q _=>∃ (a C:Addr) (v:Dt) (ts:List (Str×Int)),ds=[.raw (.ref a),v]∧lE μ v (nR ts)∧C∈Cs∧μ a=some (.ins C [])∧kZ ts∧∀ us,Dk ts us→q .non (aJ μ a (.ins C [(Ua,.dct (nR us))]))
def kc (ts:List (Str×Int)):List (Str×Int):=ts.map fun t=>(t.1,0 - t.2)
def Ho (CL:Addr) (Cs:List Addr):iP:=fun ds μ q _=>∃ (C:Addr) (ts:List (Str×Int)) (r:List (Str×Dt)),ds=[zv C ts r]∧C∈Cs∧kZ ts∧∀ us,Dk (kc ts) us→q (zv CL us []) μ
section
variable {K:Frag} {ρ:Ev} {μ:Mu} {t:DE} {q:DQ} {w:XQ}
theorem Nd (ts:List (Str×Int)):nR (kc ts)=ts.map fun t=>((.inr t.1:Key),Dt.int (0 - t.2)):=by
 unfold nR kc
 rw [List.map_map]
 rfl
theorem Hq (ts:List (Str×Int)):(kc ts).map (·.1)=ts.map (·.1):=by
 unfold kc
 rw [List.map_map]
 rfl
theorem kZ.neg {ts:List (Str×Int)} (h:kZ ts):kZ (kc ts):=by
 refine ⟨fun t ht=>?_,by rw [Hq];exact h.2.1,by unfold kc;rw [List.length_map];exact h.2.2⟩
 unfold kc at ht
 obtain ⟨u,hu,rfl⟩:=eX ht
 obtain ⟨h1,h2⟩:=h.1 u hu
 refine ⟨h1,?_⟩
 unfold fB at h2 ⊢
 simp at h2 ⊢
 omega
theorem JW {C CL:Addr} {Cs:List Addr} {ts:List (Str×Int)} {r:List (Str×Dt)} (h:Ve t ρ μ (zv C ts r)) (hC:C∈Cs) (ht:kZ ts):Ve (OF (Jl C (Ho CL Cs)) t) ρ μ (zv CL (qY (kc ts)) []):=
 MY h rfl fun q' x' k'=>⟨C,ts,r,rfl,hC,ht,fun us hu=>by rw [zw ht.neg.2.1 hu];exact k'⟩
end
end
end HS
namespace HS
open PySem PySem.Spec PyProof.Rows L2
section
variable [MK]
def qZ:List (List Str):=[["a", "b", "c", "d", "e"],["days", "shift", "count", "none", "z"],["a", "aa", "aaa", "ab", "b"],["till", "tills", "abcdefgh", "abcdefg", "any"]]
theorem zz:∀ P∈qZ,P.length=5∧P.Nodup∧∀ z∈P,bO (.str z)=true:=by decide +kernel
def Hr (zs:List Str):Prop:=zs.Nodup∧∃ P∈qZ,∀ z∈zs,z∈P
theorem Hr.name {zs:List Str} (h:Hr zs):∀ z∈zs,bO (.str z)=true:=by
 obtain ⟨_,P,hP,h⟩:=h
 exact fun z hz=>(zz P hP).2.2 z (h z hz)
def JX:iP:=fun ds μ q _=>∃ (p:Addr) (n:Nat) (k:Int),ds=[.raw (.ref p),.int k]∧μ p=some (.jD n)∧n≤10000000∧0≤k∧k≤5∧∀ zs:List Str,(zs.length:Int)=k→Hr zs→q (.lst (zs.map Dt.str)) (aJ μ p (.jD (n+1+zs.length)))
end
end HS
namespace HS
open PySem PySem.Spec PyProof.Rows L2
section
variable {K:Frag} {h:Heap} {mg:Str→Option Value} {a c p f C:Addr} {x qual m:Str} {st:Stmt} {T:String} {v:V}
theorem Cf {d:bI} (e:d.ok K):∃ oc od osl,K.lookup (d.at_ K)=some ⟨oc,od,.func (fdOf K (d.at_ K)),osl⟩∧(fdOf K (d.at_ K)).name=d.name∧(fdOf K (d.at_ K)).qualname=d.qual∧(fdOf K (d.at_ K)).params=defArgs d.st∧(fdOf K (d.at_ K)).body=.stmts (defBody d.st)∧
  (fdOf K (d.at_ K)).scope=defScope d.st∧(fdOf K (d.at_ K)).globals=mainGlobals∧(fdOf K (d.at_ K)).closure.map (·.1)=d.cl∧(fdOf K (d.at_ K)).builtins=builtinsNs:=by
 unfold bI.ok Lg bI.val at e
 unfold fdOf
 cases q:K.lookup (d.at_ K) with
 |none=>rw [q] at e;cases e
 |some o=>
  obtain ⟨oc,od,dt,osl⟩:=o
  rw [q] at e
  cases dt with
  |func fd=>
   simp only [Option.some.injEq,Prod.mk.injEq] at e
   obtain ⟨h1,h2,h3,h4,h5,h6,h7,h8⟩:=e
   exact ⟨oc,od,osl,rfl,h1,h2,h3,h4,h5,h6,h7,h8⟩
  |_=>cases e
theorem Cg {fd:FuncData} {oc:Value} {od:Option Addr} {osl:Array (Option Value)} (l:K.lookup a=some ⟨oc,od,.func fd,osl⟩) (h:codeB K a x=true):PySem.W.codeIn K fd.code x=true:=by
 unfold codeB at h
 rw [l] at h
 exact h
theorem aL {d:bI} (e:d.ok K) (hc:d.cl=[]) (h1:codeB K (d.at_ K) d.qual=true) (h2:D5 K (d.at_ K)=true) (h3:keepIn K (.ref (d.at_ K))=true):Fun K d.name d.qual d.st (d.at_ K) (fdOf K (d.at_ K)):=by
 obtain ⟨oc,od,osl,l,e1,e2,e3,e4,e5,e6,e7,e8⟩:=Cf e
 have c:=Cg l h1
 unfold D5 at h2
 generalize hf:fdOf K (d.at_ K)=fd at l e1 e2 e3 e4 e5 e6 e7 e8 c h2
 obtain ⟨n1,n2,n3,n4,n5,n6,n7,n8,n9,RS,RT,RU,RV,RW,VR⟩:=fd
 dsimp only at e1 e2 e3 e4 e5 e6 e7 e8 c h2
 subst e1 e2 e3 e4 e5 e6 e8
 rw [hc] at e7
 have RX:=List.map_eq_nil_iff.mp e7
 subst RX
 cases n8 with
 |none=>exact ⟨⟨oc,od,n9,RS,RT,RU,RV,RW,osl,rfl,l,c⟩,h3⟩
 |_=>cases h2
theorem zA {d:bI} {dvs:List V} (e:d.ok K) (hc:d.cl=[]) (h1:codeB K (d.at_ K) d.qual=true) (h2:Bk K (d.at_ K) dvs=true) (h3:keepIn K (.ref (d.at_ K))=true):FunD K d.name d.qual (defArgs d.st) (defBody d.st) (defScope d.st) dvs [] (d.at_ K) (fdOf K (d.at_ K)):=by
 obtain ⟨oc,od,osl,l,e1,e2,e3,e4,e5,e6,e7,e8⟩:=Cf e
 have c:=Cg l h1
 unfold Bk at h2
 generalize hf:fdOf K (d.at_ K)=fd at l e1 e2 e3 e4 e5 e6 e7 e8 c h2
 obtain ⟨n1,n2,n3,n4,n5,n6,n7,n8,n9,RS,RT,RU,RV,RW,VR⟩:=fd
 dsimp only at e1 e2 e3 e4 e5 e6 e7 e8 c h2
 subst e1 e2 e3 e4 e5 e6 e8
 rw [hc] at e7
 have RX:=List.map_eq_nil_iff.mp e7
 subst RX
 exact ⟨⟨oc,od,n8,n9,RS,RT,RU,RV,RW,osl,rfl,l,c,He.dflB_ok h2,.inl rfl⟩,h3⟩
theorem x6 (h:D6 K p f T=true):∃ rest,PySem.W.recIn K p T=some (.ref f::rest):=by
 unfold D6 at h
 split at h
 ·rename_i g rest e
  rw [beq_iff_eq.mp h] at e
  exact ⟨_,e⟩
 ·cases h
theorem AX (h:N3 K C p m=true):PySem.W.findCls K (.ref C) (.type "type") m=some (.get (.builtin "staticmethod.__get__") (.ref p) .none (.ref C)):=by
 unfold N3 at h
 split at h
 ·rename_i g q D e
  simp only [Bool.and_eq_true,decide_eq_true_eq,beq_iff_eq] at h
  obtain ⟨rfl,rfl,rfl⟩:=h
  exact e
 ·cases h
theorem JY (h:D7 K C m v=true) (hc:PySem.W.copiedNames.contains m=false):∃ u,Con K C m v u:=by
 unfold D7 at h
 split at h
 ·rename_i u e
  simp only [Bool.and_eq_true,decide_eq_true_eq] at h
  exact ⟨u,e,He.relB_ok h.1,h.2,hc⟩
 ·cases h
theorem uc (h:CD K C=true):∃ nm q N bs bm sn sub ab col dd k0 k1 k2 k3 k5,K.lookup C=some (excClassObj nm q C N bs bm true sn sub ab col dd k0 k1 k2 k3 k5 "ValueError.__new__")∧PySem.HandSPX.refsVE bm=true:=by
 unfold CD at h
 split at h
 ·rename_i t dd cd sl ho
  split at h
  ·rename_i C' bm k0 k1 k2 k3 n k5 hm hs
   simp only [Bool.and_eq_true,decide_eq_true_eq,beq_iff_eq,Bool.not_eq_true'] at h
   obtain ⟨rfl,rfl,rfl,Po,hdc,ht⟩:=h
   obtain ⟨nm,bs,mro,ns,qn,hd,sn,sub,ab,col,del⟩:=cd
   dsimp only at hm Po hdc
   subst hm Po hdc
   have hsl:sl = #[k0,k1,k2,k3,some (.builtin "ValueError.__new__"),k5]:=by
    obtain ⟨l⟩:=sl
    simp only at hs
    rw [hs]
   subst hsl
   exact ⟨_,_,_,_,_,_,_,_,_,_,_,_,_,_,_,ho,ht⟩
  ·cases h
 ·cases h
theorem wK {r:Option (Option Value)} (h:xu r=true):∃ rc,r=some rc∧(rc=none∨∃ g:Addr,rc=some (.ref g)):=by
 unfold xu at h
 split at h
 ·exact ⟨_,rfl,.inl rfl⟩
 ·exact ⟨_,rfl,.inr ⟨_,rfl⟩⟩
 ·cases h
theorem Hs (X:K.In h) (G:h.Ns mainGlobals mg) (c:PZ K x v=true):∃ u,mg x=some u∧RelV v u:=by
 unfold PZ at c
 split at c
 ·rename_i u e
  exact ⟨u,mg_of X G e,He.relB_ok c⟩
 ·cases c
end
theorem x7 {K:Frag} {C:Addr} {f:Str} (h:findIn K (.ref C) f=some none):NoAttr K C f:=h
theorem JZ [MK] {l:PySem.W.OpenLaw} {n k:Nat} {q:Program} {loose:List Str} {XP:(Str→Option Value)→Heap→Prop} {YP:World→Heap→Prop} {d:DefRec} {sp:Frag→iP} {x:Str}
  (hn:l.most=some n) (hn2:n≤sizeLine) (hdf:d.params.defaults=[]) (hr:k≤200) (himp:importsNone q=true) (VS:O3 q=true)
  (F:∀ (w:World) (mg:Str→Option Value) (fa:Addr) (h:Heap),YP w h→h.Ns mainGlobals mg→mg d.name=some (.ref fa)→
   ∃ K:Frag,K.In h∧K.lookup sysModules=none∧Bj K=true∧∃ fd:FuncData,(∀ (s:Shared) (u:Value),BindsTo s fd ⟨[u],[]⟩ [(x,u)])∧
    ∀ base:Heap,K.In base→base.Ns mainGlobals mg→pe K mg base→gG l.prog w K mg base k fa fd [x] (aV K (sp K)))
  (hsp:∀ (K:Frag) (ns:List Int),ns.length≤n→(∀ z∈ns,Sz 1048576 z)→sp K [.BA ns] (fun _=>none) (fun d _=>d=.bl true) fun _ _ _=>False) :
  PySem.W.WalkO q loose XP YP l.row.toRowW d [] (fun f vs=>PySem.call f vs):=by
 refine Att.attach_callB hn hdf fun w s₀ s₁ mg mb fa o pm cd doc a vs ns G Y ho hd hcd hmg hobj hints hlen Pp hg=>?_
 obtain ⟨K,KX,RE,VU,fd,hb,hF⟩:=F w mg fa _ Y G.T.g hmg
 obtain ⟨mm,h1,_⟩:=(G.T.seer himp).mods
 refine Gj KX G.T.g G.T.b G.T.builtins G.T.nolimit hg ⟨mm,h1⟩ RE (fun p hp=>?_) VU G.T.bmain hobj hints (Nat.le_trans hlen hn2) (CT hr) hF hb (hsp K ns hlen fun z m=>Sz.of_bits (Pp z m))
 obtain ⟨y,hy,e⟩:=List.mem_filterMap.mp hp
 have hm:=List.all_eq_true.mp VS y hy
 obtain ⟨dr,hdr⟩:=Option.isSome_iff_exists.mp hm
 exact PySem.W.tab_of G.T KX hdr e
end HS
namespace HS
open PySem PySem.Spec PySem.Calls PyProof.Rows L2 SeqAt
section
variable {prog:Program} {w:World} {A:Around} {E:Value→Shared→Prop} {s:Shared}
def x8 (A:Around) (s:Shared) (es:Array DictEntry) (key:Value):Prop:=∀ e∈es,EqAt A s e.key key false
theorem Ds {d:Addr} {o:Obj} {es:Array DictEntry} {ep:Nat} {key:Value} {hs:Int} {pl:List Nat} {Q:Option Nat→Shared→Prop} (ho:s.heap.get? d=some o) (hd:o.data=.dict es ep) (n:x8 A s es key) (h:Q none s) :
  wpAny (model prog w) A (dictWalkPlain d key hs es pl) Q E s:=by
 unfold dictWalkPlain
 refine wpAny_bind ?_
 refine wpAny_forIn_list _ (fun rest b s'=>s'=s∧b=(none,())) _ ?_ ?_ _ _ ⟨rfl,rfl⟩
 ·rintro x rest b s' ⟨rfl,rfl⟩
  cases hx:es[x]? with
  |none=>exact wpAny_pure ⟨rfl,rfl⟩
  |some e=>
   dsimp only
   by_cases hh:(e.hash == hs)=true
   ·rw [if_pos hh]
    refine wpAny_bind (wpAny_dictEpoch ho hd (wpAny_bind (n e (Array.mem_of_getElem? hx) _ _ _ _ (wpAny_bind (wpAny_dictEpoch ho hd ?_)))))
    show wpAny _ _ (if (ep != ep)=true then _ else _) _ E _
    rw [if_neg (by simp)]
    simp only [Bool.false_eq_true,if_false]
    exact wpAny_bind (wpAny_rule (wpAny_pure ⟨rfl,rfl⟩))
   ·rw [if_neg hh]
    exact wpAny_pure ⟨rfl,rfl⟩
 ·rintro b s' ⟨rfl,rfl⟩
  exact wpAny_pure h
theorem sP (es:Array DictEntry) (h:∀ e∈es,carriedByValue e.key=true) (hs:Int):∀ v∈(placesWithHash es.size (fun i=>es[i]?.map (·.hash)) hs).filterMap (fun i=>es[i]?.map (·.key)),carriedByValue v=true:=by
 intro v hv
 obtain ⟨i,_,hi⟩:=List.mem_filterMap.mp hv
 cases he:es[i]? with
 |none=>rw [he] at hi;cases hi
 |some e=>
  rw [he] at hi
  obtain rfl:e.key=v:=by simpa using hi
  exact h e (Array.mem_of_getElem? he)
theorem AY {d:Addr} {o:Obj} {es:Array DictEntry} {ep:Nat} {key:Value} {hs:Int} {Q:Option Nat→Shared→Prop} (ho:s.heap.get? d=some o) (hd:o.data=.dict es ep) (hv:∀ e∈es,carriedByValue e.key=true)
  (hk:carriedByValue key=true) (hns:∀ x t,key≠.str x t) (n:x8 A s es key) (h:Q none s):wpAny (model prog w) A (dictFind d key hs) Q E s:=by
 have hall:((key::(placesWithHash es.size (fun i=>es[i]?.map (·.hash)) hs).filterMap fun i=>es[i]?.map (·.key)).all carriedByValue)=true:=by
  rw [List.all_cons,hk,Bool.true_and,List.all_eq_true]
  exact sP es hv hs
 unfold dictFind
 try with_reducible refine wpAny_holding ?_
 refine wpAny_bind (wpAny_dictEntries ho hd ?_)
 dsimp only
 rw [if_pos hall]
 have old:wpAny (model prog w) A (dictWalkPlain d key hs es (placesWithHash es.size (fun i=>es[i]?.map (·.hash)) hs)) Q E s:=Ds ho hd n h
 cases key with
 |str x t=>exact absurd rfl (hns x t)
 |_=>exact old
theorem AZ {a:Addr} {stored:List Value} {Q:Bool→Shared→Prop} (hq:∀ {Q:Bool→Shared→Prop} {E:Value→Shared→Prop},Q true s→wpAny (model prog w) A (eqIsQuiet 8 (.ref a)) Q E s)
  (hst:∀ v∈stored,carriedByValue v=true) (h:Q false s):wpAny (model prog w) A (tableMayTell (.ref a) stored) Q E s:=by
 unfold tableMayTell
 split
 ·exact wpAny_pure h
 ·refine wpAny_bind (hq ?_)
  simp only [Bool.not_true,Bool.false_eq_true,if_false]
  refine wpAny_bind ?_
  refine wpAny_forIn_list _ (fun rest r s'=>s'=s∧r=(none,())∧∀ v∈rest,carriedByValue v=true) _ ?_ ?_ _ _ ⟨rfl,rfl,hst⟩
  ·rintro x rest r s' ⟨rfl,rfl,hr⟩
   rw [eqIsQuiet_byValue _ (hr x List.mem_cons_self)]
   refine wpAny_bind (wpAny_pure ?_)
   simp only [Bool.not_true,Bool.false_eq_true,if_false]
   exact wpAny_pure ⟨rfl,rfl,fun v hv=>hr v (List.mem_cons_of_mem _ hv)⟩
  ·rintro r s' ⟨rfl,rfl,_⟩
   exact wpAny_pure h
theorem A3 {d a:Addr} {o:Obj} {es:Array DictEntry} {ep:Nat} {hs:Int} {Q:Option Nat→Shared→Prop} (ho:s.heap.get? d=some o) (hd:o.data=.dict es ep) (hv:∀ e∈es,carriedByValue e.key=true)
  (hq:∀ {Q:Bool→Shared→Prop} {E:Value→Shared→Prop},Q true s→wpAny (model prog w) A (eqIsQuiet 8 (.ref a)) Q E s) (n:x8 A s es (.ref a)) (h:Q none s):wpAny (model prog w) A (dictFind d (.ref a) hs) Q E s:=by
 have hst:=sP es hv hs
 have hany:¬ (es.any fun e=>e.key == Value.ref a&&e.hash != hs)=true:=by
  rw [← Array.any_toList,List.any_eq_true]
  rintro ⟨e,hin,hc⟩
  simp only [Bool.and_eq_true,beq_iff_eq] at hc
  have:=hv e (Array.mem_toList_iff.mp hin)
  rw [hc.1] at this
  exact absurd this (by simp [carriedByValue])
 have hone:¬ (((placesWithHash es.size (fun i=>es[i]?.map (·.hash)) hs).filterMap (fun i=>es[i]?.map (·.key))) == [Value.ref a])=true:=by
  intro e
  have e2:=eq_of_beq e
  rw [e2] at hst
  exact absurd (hst _ (List.mem_singleton.mpr rfl)) (by simp [carriedByValue])
 unfold dictFind
 try with_reducible refine wpAny_holding ?_
 refine wpAny_bind (wpAny_dictEntries ho hd ?_)
 dsimp only
 rw [if_neg (show ¬ ((Value.ref a::(placesWithHash es.size (fun i=>es[i]?.map (·.hash)) hs).filterMap (fun i=>es[i]?.map (·.key))).all carriedByValue)=true by simp [carriedByValue])]
 rw [if_neg hany,if_neg hone]
 refine wpAny_bind (AZ hq hst ?_)
 rw [if_neg (by simp)]
 refine wpAny_bind ?_
 refine wpAny_forIn_list _ (fun rest b s'=>s'=s∧b=(none,none)) _ ?_ ?_ _ _ ⟨rfl,rfl⟩
 ·rintro x rest b s' ⟨rfl,rfl⟩
  cases hx:es[x]? with
  |none=>exact wpAny_pure ⟨rfl,rfl⟩
  |some e=>
   dsimp only
   by_cases hh:(e.hash == hs)=true
   ·rw [if_pos hh]
    refine wpAny_bind (wpAny_dictEpoch ho hd (wpAny_bind (n e (Array.mem_of_getElem? hx) _ _ _ _ (wpAny_bind (wpAny_dictEpoch ho hd ?_)))))
    show wpAny _ _ (if (ep != ep)=true then _ else _) _ E _
    rw [if_neg (by simp)]
    simp only [Bool.false_eq_true,if_false]
    refine wpAny_bind (wpAny_rule ?_)
    first |rw [if_neg (by simp)]|skip
    first
     |exact wpAny_pure ⟨rfl,rfl⟩
     |exact wpAny_bind (wpAny_pure (wpAny_pure ⟨rfl,rfl⟩))
   ·rw [if_neg hh]
    exact wpAny_pure ⟨rfl,rfl⟩
 ·rintro b s' ⟨rfl,rfl⟩
  exact wpAny_pure h
def Hashed (prog:Program) (w:World) (A:Around) (s:Shared) (key:Value):Prop:=∃ (hs:Int) (k:Nat),∀ (E:Value→Shared→Prop) (Q:Int→Shared→Prop),Q hs {s with toks:=s.toks+k}→wpAny (model prog w) A (pyHash key) Q E s
theorem Ht {d:Addr} {o:Obj} {es:Array DictEntry} {ep:Nat} {key v:Value} {Q:Unit→Shared→Prop} (hk:Hashed prog w A s key) (ho:s.heap.get? d=some o) (hc:o.ExactDict) (hd:o.data=.dict es ep) (hz:es.size≤sizeLine)
  (hf:∀ (hs:Int) (tk:Nat) (Q:Option Nat→Shared→Prop) (E:Value→Shared→Prop),Q none {s with toks:=tk}→wpAny (model prog w) A (dictFind d key hs) Q E {s with toks:=tk})
  (hQ:∀ (h':Heap) (o':Obj) (hs:Int) (tk:Nat),h'.get? d=some o'→o'.ExactDict→o'.data=.dict (es.push ⟨hs,key,v⟩) (ep+1)→Heap.SameBut d s.heap h'→Q () {s with heap:=h',toks:=tk}) :
  wpAny (model prog w) A (dictSet d key v) Q E s:=by
 obtain ⟨hs,k,hk⟩:=hk
 unfold dictSet
 try with_reducible refine wpAny_holding ?_
 refine wpAny_bind (hk _ _ ?_)
 unfold dictSetHashed
 try with_reducible refine wpAny_holding ?_
 refine wpAny_bind (hf hs _ _ _ ?_)
 exact wpAny_bind (wpAny_rule (wpAny_updateDictKeys (hz:=hz) (s:={s with toks:=s.toks+k}) ho hd (hQ _ _ hs _ (Heap.get?_update_self _ ho (Obj.isFreed_of_dict (Obj.data_mapDictKeys hd _))) (hc.mapDictKeys _) (Obj.data_mapDictKeys hd _) (Heap.SameBut.update ..))))
end
section
variable {prog:Program} {w:World} {A:Around} {E:Value→Shared→Prop} {s:Shared}
theorem x9 {d:Addr} {o:Obj} {es:Array DictEntry} {ep:Nat} {key v:Value} {Q:Unit→Shared→Prop} (hk:∀ A:Around,A.units+1<cLine→Hashed prog w A s key) (hu:A.units+2<cLine) (ho:s.heap.get? d=some o) (hc:o.ExactDict) (hd:o.data=.dict es ep) (hz:es.size≤sizeLine)
  (hf:∀ (A:Around),A.units+1<cLine→∀ (hs:Int) (tk:Nat) (Q:Option Nat→Shared→Prop) (E:Value→Shared→Prop),Q none {s with toks:=tk}→wpAny (model prog w) A (dictFind d key hs) Q E {s with toks:=tk})
  (hQ:∀ (h':Heap) (o':Obj) (hs:Int) (tk:Nat),h'.get? d=some o'→o'.ExactDict→o'.data=.dict (es.push ⟨hs,key,v⟩) (ep+1)→Heap.SameBut d s.heap h'→Q () {s with heap:=h',toks:=tk}) :
  wpAny (model prog w) A (setItem (.ref d) key v) Q E s:=by
 have hT:s.TypeIs (.ref d) "dict" := ⟨o,ho,hc.1⟩
 unfold setItem
 try with_reducible refine wpAny_holding ?_
 refine wpAny_bind (wpAny_sequenceKey hT (by decide) ?_)
 refine wpAny_bind (wpAny_callSpecial?_slot (name:=Str.ofString "__setitem__") hT slot_dict_setitem
  (wpAny_call_entry slot_dict_setitem hT entry_dict_setitem ?_ (args_dict_setitem _ _ _)))
 show wpAny _ _ (Builtin.Dict.notOrdered "__setitem__" ⟨[.ref d,key,v],[]⟩ >>= _) _ _ s
 refine wpAny_bind (wpAny_notOrdered_dict hT ?_)
 show wpAny _ A.in1 (dictSet d key v >>= _) _ _ s
 have hu1:A.in1.units+1<cLine:=by show A.units+1+1<cLine;omega
 exact wpAny_bind (Ht (hk _ hu1) ho hc hd hz (hf _ hu1) fun h' o' hs tk e1 e2 e3 e4=>wpAny_pure ⟨.none,rfl,wpAny_pure (hQ h' o' hs tk e1 e2 e3 e4)⟩)
end
def J0 (H:Hp) (v:V):Prop:=v=.non∨(∃ b,v=.bl b)∨(∃ i,v=.int i)∨∃ (t:Addr) (is:List Int),v=.ref t∧H t=some (.tup (is.map V.int))
theorem sQ {h:Heap}:∀ {is:List Int} {vs:List Value},Vals (is.map V.int) vs→NestedAll h (is.map NestedKey.num) vs
 |[],_,.nil=>.nil
 |i::is,_,.cons ⟨t,e⟩ r=>by
  subst e
  exact .cons (.int i t) (sQ r)
theorem uV:∀ is:List Int,NestedKey.depthAll (is.map NestedKey.num)=0
 |[]=>rfl
 |i::is=>by
  simp only [List.map_cons,NestedKey.depthAll,NestedKey.depth,uV is]
  rfl
theorem zB {X:Cx} {pins:List (Addr×Obj)} {σ:L2.St} {H:Hp} {s:Shared} {v:V} {u:Value} (I:Inv X pins σ H s) (r:RelV v u) (h:J0 H v):∃ k:NestedKey,NestedIs s.heap k u∧k.depth≤1∧∀ x,NestedKey.beq (.text x) k=false:=by
 rcases h with rfl |⟨b,rfl⟩|⟨i,rfl⟩|⟨t,is,rfl,ht⟩
 ·obtain rfl:u=Value.none:=r
  exact ⟨.none,.none,Nat.zero_le _,fun x=>by simp [NestedKey.beq]⟩
 ·obtain rfl:u=Value.bool b:=r
  exact ⟨.num _,.bool rfl,Nat.zero_le _,fun x=>by simp [NestedKey.beq]⟩
 ·obtain ⟨t,rfl⟩:=(show ∃ t,u=Value.int i t from r)
  exact ⟨.num i,.int i t,Nat.zero_le _,fun x=>by simp [NestedKey.beq]⟩
 ·obtain rfl:u=Value.ref t:=r
  obtain ⟨_,its,rv,o,h1,h2,n,h3⟩:=(show ObjOk X.prog X.w H s.heap t (.tup (is.map V.int)) from I.hok t _ ht)
  refine ⟨.tup (is.map .num),.tup h1 h2 h3 (sQ (by simpa using rv)),?_,fun x=>by simp [NestedKey.beq]⟩
  simp only [NestedKey.depth,uV]
  exact Nat.le_refl _
theorem uW {P:Program} {w:World}:∀ {kvs:List (Key×V)} {vs:List (Key×Value)} {es:List DictEntry},KV kvs vs→Pairs (mixKind P w) es vs→Paired (fun (k:V) (e:DictEntry)=>RelV k e.key) (kvs.map fun p=>kV p.1) es
 |[],_,_,.nil,.nil=>.nil
 |(k,v)::kvs,(k',u)::vs,e::es,.cons ⟨e1,_⟩ t,.cons h1 _ t2=>by
  have RY:k=k':=e1
  subst RY
  exact .cons (relV_key (show keyIs k e.key=true from h1)) (uW t t2)
theorem wL {P:Program} {w:World}:∀ {kvs:List (Key×V)} {vs:List (Key×Value)} {es:List DictEntry},KV kvs vs→Pairs (mixKind P w) es vs→(∀ p∈kvs,∃ z,p.1=Sum.inr z)→∀ e∈es,∃ x t,e.key=.str x t
 |[],_,_,.nil,.nil,_,e,he=>by simp at he
 |(k,v)::kvs,(k',u)::vs,e'::es,.cons ⟨e1,_⟩ t,.cons h1 _ t2,n,e,he=>by
  have RY:k=k':=e1
  subst RY
  rcases List.mem_cons.mp he with rfl |he
  ·obtain ⟨z,hz⟩:=n (k,v) List.mem_cons_self
   have hz':k=Sum.inr z:=hz
   subst hz'
   obtain ⟨t,ht⟩:=Value.isStrOf_shape (show Value.isStrOf z e.key=true from h1)
   exact ⟨z,t,ht⟩
  ·exact wL t t2 (fun p hp=>n p (List.mem_cons_of_mem _ hp)) e he
theorem sR {α β:Type} {F:α→β→Prop} {a:α} {b:β} (h:F a b):∀ {xs:List α} {ys:List β},Paired F xs ys→Paired F (xs++[a]) (ys++[b])
 |_,_,.nil=>.cons h .nil
 |_,_,.cons q t=>.cons q (sR h t)
theorem Hu {X:Cx} {pins:List (Addr×Obj)} {σ:L2.St} {H:Hp} {s:Shared} {A:Around} {E:Value→Shared→Prop} {a:Addr} {kvs:List (Key×V)} {y:V} {u r:Value} {Q:Unit→Shared→Prop} (hu:A.units+4<cLine) (I:Inv X pins σ H s) (ha:H a=some (.dK kvs)) (n:∀ p∈kvs,∃ z,p.1=Sum.inr z)
  (hl:kvs.length<sizeLine) (ry:RelV y u) (hy:J0 H y) (h:∀ (o:Obj) s',Inv X pins σ (upd H a (.frz o (qL a ((kvs.map fun p=>kV p.1)++[y])))) s'→Q () s'):wpAny (model X.prog X.w) A (setItem (.ref a) u r) Q E s:=by
 obtain ⟨z,hd,vs,kv,o,es,ep,ho,hx,hdt,hk,pr,nd⟩:=(show ObjOk X.prog X.w H s.heap a (.dK kvs) from I.hok a _ ha)
 obtain ⟨k,nk,dk,nb⟩:=zB I ry hy
 have hst:=wL kv pr n
 have hv:∀ e∈es,carriedByValue e.key=true:=fun e he=>by
  obtain ⟨x,t,q⟩:=hst e (Array.mem_toList_iff.mpr he)
  rw [q]
  rfl
 have hsz:es.size≤sizeLine:=by
  have l1:=pr.length
  have l2:kvs.length=vs.length:=Paired.length kv
  rw [Array.length_toList] at l1
  omega
 have neq:∀ (A:Around) (tk:Nat),A.units+1<cLine→x8 A {s with toks:=tk} es u:=fun A tk hA e he=>by
  obtain ⟨x,t,q⟩:=hst e (Array.mem_toList_iff.mpr he)
  rw [q,← nb x]
  exact eqAt_key (.text x) k A {s with toks:=tk} _ _ (.text x t) nk (by
   have:min (NestedKey.depth (.text x)) k.depth=0:=by simp [NestedKey.depth]
   omega)
 refine x9 (fun A hA=>⟨_,_,fun E Q q=>pyHash_key k u A s Q nk (by omega) q⟩) (by omega) ho hx hdt hsz (fun A hA hs tk Q E q=>?_) fun h' o' hs tk e1 e2 e3 e4=>?_
 ·cases u with
  |ref b=>exact A3 (s:={s with toks:=tk}) ho hdt hv (fun {Q E} q=>quiet_key k _ 8 {s with toks:=tk} nk (by omega) A E Q q) (neq A tk hA) q
  |str x t=>
   have:=nb x
   cases nk with
   |text x t=>rw [NestedKey.beq_self] at this;cases this
  |_=>exact AY (s:={s with toks:=tk}) ho hdt hv rfl (fun x t e=>nomatch e) (neq A tk hA) q
 ·refine h o' _ (d_write I (by rw [ha];exact True.intro) e4 ⟨o',e1⟩ ⟨e1,LW ⟨?_,hd,o',_,_,e1,e2,e3,?_⟩⟩)
  ·rw [List.length_append,List.length_map,List.length_singleton]
   omega
  ·rw [Array.toList_push]
   exact sR (F:=fun (k:V) (e:DictEntry)=>RelV k e.key) (b:=⟨hs,u,r⟩) ry (uW kv pr)
def La (td ty tv:TE):TS:=fun D σ H=>tv σ H fun v H1=>td σ H1 fun x H2=>ty σ H2 fun y H3=>∃ (a:Addr) (kvs:List (Key×V)),x=.ref a∧H3 a=some (.dK kvs)∧(∀ p∈kvs,∃ z,p.1=Sum.inr z)∧kvs.length<sizeLine∧J0 H3 y∧
 ∀ o:Obj,D.nx σ (upd H3 a (.frz o (qL a ((kvs.map fun p=>kV p.1)++[y]))))
section
variable {X:Cx} {o i value:Expr} {pos pos':Pos} {td ty tv:TE}
theorem J5 (hu:X.A.units+4<cLine) (ho:PE X o td) (hi:PE X i ty) (hv:PE X value tv) (hs:swapsWith value (some (.Subscript o i pos')) pos.line X.env=pure false) :
  PS X (.Assign [.Subscript o i pos'] value pos) (La td ty tv):=by
 refine ⟨fun pins s σ H D I h=>?_⟩
 refine wpAny_Assign_Subscript (thn (hv.run pins s σ H _ I h) fun r s1 ⟨v,H1,I1,rv,q1⟩=>thn (ho.run pins s1 σ H1 _ I1 q1) fun u s2 ⟨x,H2,I2,rx,q2⟩=>thn (hi.run pins s2 σ H2 _ I2 q2) fun iv s3 ⟨y,H3,I3,ry,a,kvs,ex,ha,n,l,od,q3⟩=>?_) hs
 subst ex
 obtain rfl:u=Value.ref a:=rx
 exact Hu hu I3 ha n l ry od fun o' s4 I4=>⟨σ,_,I4,q3 o'⟩
end
def R1 (d:Addr) (o:Obj) (ks:List V):It:=
 ⟨fun i H=>H d=some (.frz o (qL d ks))∧i<ks.length,fun i H x H'=>H'=H∧ks[i]? = some x,fun i H=>H d=some (.frz o (qL d ks))∧ks.length≤i⟩
section
variable {P:Program} {w:World} {K:Frag} {tg:Expr} {d:Addr} {o:Obj} {es:Array DictEntry} {ep:Nat}
theorem A4 {ks:List V} (it:Addr) (hod:o.data=.dict es ep):Turn P w K tg (R1 d o ks) [it] it (fun i h=>h.IsKeyIter it d i ks.length ep) where
 mem:=by simp
 obj:=fun i h st b hb=>by
  have e:b=it:=by simpa using hb
  subst e
  obtain ⟨oi,e,c,dd⟩:=st
  exact ⟨oi,e,fun v z=>by rw [dd] at z;cases z⟩
 keep:=fun i h h' st k=>st.at fun oi e=>k it (by simp) oi e
 item:=by
  intro X hP hw hK hc i pins s σ H E I hf st hg
  subst hP hw hK
  obtain ⟨hd,hi⟩:=hg
  obtain ⟨f0,f1,f2,f3,f4,f5⟩:=hf it (by simp)
  obtain ⟨hgd,hz,hs,o',es',ep',ho',hx,hdt,pr⟩:=xB I.hok hd
  rw [hgd] at ho'
  cases ho'
  obtain ⟨rfl,rfl⟩:=dict_ep hod hdt
  have hsz:es'.size=ks.length:=by
   have:=Paired.length pr
   rw [Array.length_toList] at this
   exact this.symm
  obtain ⟨k,hk⟩:∃ p,ks[i]? = some p:=⟨ks[i],List.getElem?_eq_getElem hi⟩
  obtain ⟨en,hen,rk⟩:=paired_get pr hk
  rw [Array.getElem?_toList] at hen
  refine next_key_item st hgd hdt hsz hen fun h' st' sb=>?_
  have I1:Inv X pins σ H {s with heap:=h' }:=I.turned (t':=s.toks) (fun b ob hb e=>(sb.2 b hb).trans e) f0 f1 f3 f4 f5
  obtain ⟨oi,e,c,dd⟩:=id st'
  exact ⟨en.key,rfl,go_of (s:={s with heap:=h' }) e c dd (by decide) ⟨k,H,I1,rk,⟨rfl,hk⟩,st',fun b hb=>(hf b hb).1⟩⟩
 done:=by
  intro X hP hw hK hc i pins s σ H E I hf st hg
  subst hP hw hK
  obtain ⟨hd,hi⟩:=hg
  obtain ⟨f0,f1,f2,f3,f4,f5⟩:=hf it (by simp)
  obtain ⟨hgd,hz,hs,o',es',ep',ho',hx,hdt,pr⟩:=xB I.hok hd
  rw [hgd] at ho'
  cases ho'
  obtain ⟨rfl,rfl⟩:=dict_ep hod hdt
  have hsz:es'.size=ks.length:=by
   have:=Paired.length pr
   rw [Array.length_toList] at this
   exact this.symm
  exact next_key_end (I.ok.hd hc) st hgd hdt hsz hi fun h' eb=>⟨rfl,I.turned (t':=s.toks) (fun b ob hb e=>eb b ob hb e) f0 f1 f3 f4 f5⟩
 self:=fun A i s Q E st h=>by
  refine wpAny_pyIter_slot st.typeIs F.slot_dict_keyiterator_iter (wpAny_call_entry F.slot_dict_keyiterator_iter st.typeIs F.entry_dict_keyiterator_iter ?_ (F.args_dict_keyiterator_iter_1 _))
  show wpAny _ _ (ret (.ref it)) _ _ s
  exact wpAny_pure ⟨_,rfl, "dict_keyiterator",_,st.typeIs,F.slot_dict_keyiterator_next.lookup,h⟩
end
def Hv (td:TE):TI:=fun σ H R=>td σ H fun x H1=>∃ d o ks,x=.ref d∧H1 d=some (.frz o (qL d ks))∧R (R1 d o ks) H1
theorem Hw {X:Cx} {tg e:Expr} {td:TE} (he:PE X e td):PI X tg e (Hv td):=by
 refine ⟨fun pins s σ H R I h=>?_⟩
 refine thn (he.run pins s σ H _ I h) fun u s1 ⟨x,H1,I1,rx,d,o,ks,ex,hd,q⟩=>?_
 subst ex
 obtain rfl:u=Value.ref d:=rx
 obtain ⟨hgd,hz,hs,o',es,ep,ho',hx,hdt,pr⟩:=xB I1.hok hd
 rw [hgd] at ho'
 cases ho'
 have hsz:es.size=ks.length:=by
  have:=Paired.length pr
  rw [Array.length_toList] at this
  exact this.symm
 refine iter_keys hs hgd hx hdt (pi_one (tk:=s1.toks) I1 _ (A4 _ hdt) ⟨_,Heap.get?_push_size _ rfl,rfl,?_⟩ q)
 rw [hsz] <;> rfl
end HS
namespace HS
open PySem PySem.Spec PyProof.Rows L2
section
variable [MK] {K:Frag} {B:Pt}
theorem Step.swap {P:Pt} {a:Addr} {m:MO} {u:HO} (s:Sat K P) (hm:P.μ a=some m) (hu:kM u=false):Step K P ⟨upd P.G a u,upd P.H a u,iD P.μ a⟩:=by
 obtain ⟨g,mo⟩:=s.mu a m hm
 refine ⟨.upd g,⟨s.sub.I7,fun b o' e=>?_,mC s.sys hu,j4 s.tabs mo.plain,oB s.gt hu⟩,fun b o' e1 _ e2 e3=>?_,fun b x v e=>by show upd P.H a u b=_;rw [upd_ne (fun z=>by rw [z] at e;exact mo.loose x v e)];exact e⟩
 ·have e':(if b=a then Option.none else P.μ b)=some o':=e
  by_cases n:b=a
  ·rw [if_pos n] at e';cases e'
  ·rw [if_neg n] at e'
   obtain ⟨h1,h2⟩:=s.mu b o' e'
   exact ⟨by show upd P.G a u b=_;rw [upd_ne n];exact h1,h2.sf (.upd g) fun v q=>by show upd P.H a u b=_;rw [upd_ne n];exact q⟩
 ·have n:b≠a:=fun z=>by rw [z,hm] at e3;cases e3
  exact ⟨by show upd P.H a u b=_;rw [upd_ne n];exact e1,by show upd P.G a u b=_;rw [upd_ne n];exact e2,by show (if b=a then Option.none else P.μ b)=_;rw [if_neg n];exact e3⟩
def Nf (y:Dt):Prop:=y=.non∨(∃ b,y=.bl b)∨(∃ i,y=.int i)∨∃ is:List Int,y=.tup (is.map Dt.int)
theorem wM {G:Hp}:∀ {is:List Int} {vs:List V},dh K G vs (is.map Dt.int)→vs=is.map V.int
 |[],_,.nil=>rfl
 |i::is,_,.cons h t=>by
  obtain rfl:=fX h
  rw [wM t]
  rfl
theorem J8 {P:Pt} {v:V} {y:Dt} (s:Sat K P) (r:Rp K P.G v y) (h:Nf y):J0 P.H v:=by
 rcases h with rfl |⟨b,rfl⟩|⟨i,rfl⟩|⟨is,rfl⟩
 ·cases r;exact .inl rfl
 ·cases r;exact .inr (.inl ⟨b,rfl⟩)
 ·obtain rfl:=fX r
  exact .inr (.inr (.inl ⟨i,rfl⟩))
 ·cases r with
  |tup h t st=>
   obtain rfl:=wM t
   exact .inr (.inr (.inr ⟨_,is,rfl,s.sub.fH st rfl⟩))
theorem zC {G:Hp}:∀ {kvs:List (Key×V)} {ds:List (Key×Dt)},gW K G kvs ds→dh K G (kvs.map fun p=>kV p.1) (ds.map fun p=>wA p.1)
 |_,_,.nil=>.nil
 |_,_,.cons (f:=f) h t=>.cons (match f with |.inl i=>.int i |.inr x=>.str x) (zC t)
theorem zD {G:Hp}:∀ {kvs:List (Key×V)} {ds:List (Key×Dt)},gW K G kvs ds→(∀ p∈ds,∃ z,p.1=Sum.inr z)→∀ p∈kvs,∃ z,p.1=Sum.inr z
 |_,_,.nil,_,p,hp=>by simp at hp
 |_,_,.cons (f:=f) h t,n,p,hp=>by
  rcases List.mem_cons.mp hp with rfl |hp
  ·obtain ⟨z,e⟩:=n _ List.mem_cons_self
   exact ⟨z,e⟩
  ·exact zD t (fun q hq=>n q (List.mem_cons_of_mem _ hq)) p hp
theorem zE {G:Hp} {v:V} {d:Dt} (r:Rp K G v d):∀ {vs:List V} {ds:List Dt},dh K G vs ds→dh K G (vs++[v]) (ds++[d])
 |_,_,.nil=>.cons r .nil
 |_,_,.cons h t=>.cons h (zE r t)
def Pq (i:Nat) (uy uv:DE):DS:=fun d ρ μ=>∃ a,ρ[i]? = some (some (.raw (.ref a)))∧uv ρ μ fun v μ1=>uy ρ μ1 fun y μ2=>∃ ds,μ2 a=some (.dct ds)∧(∀ p∈ds,∃ z,p.1=Sum.inr z)∧ds.length<sizeLine∧Nf y∧
 d.nx (ρ.set i (some (.mix ((ds.map fun p=>wA p.1)++[y])))) (iD μ2 a)
theorem J9 {i:Nat} {tv ty:TE} {uv uy:DE} (b:cG K B ty uy) (c:cG K B tv uv):nM K B (La (tVar i) ty tv) (Pq i uy uv):=fun σ P ρ D d hB hE ⟨a,ea,h⟩ k=>by
 obtain ⟨va,e1,ra⟩:=hE.2 i _ ea
 obtain rfl:=kY ra
 refine c σ P ρ _ _ hB hE h fun v x P1 s1 r1 h1=>⟨_,e1,b σ P1 ρ _ _ (hB.trans s1) (hE.sf s1.sf) h1 fun w y P2 s2 r2 ⟨ds,em,n,l,od,h2⟩=>?_⟩
 obtain ⟨g,kvs,hp,t⟩:=s2.sat.mu a _ em
 refine ⟨a,kvs,rfl,hp,zD t n,by rw [t.length];exact l,J8 s2.sat r2 od,fun o=>?_⟩
 have st:=Step.swap (u:=.frz o (qL a ((kvs.map fun p=>kV p.1)++[w]))) s2.sat em rfl
 have sA:=s1.trans (s2.trans st)
 have e2:=(hE.sf sA.sf).set (i:=i) (Rp.mix (K:=K) (ds:=(ds.map fun p=>wA p.1)++[y]) upd_same (zE (r2.sf st.sf) ((zC t).sf st.sf)))
 rw [oJ e1] at e2
 exact k.nx σ ⟨upd P2.G a (.frz o (qL a ((kvs.map fun p=>kV p.1)++[w]))),upd P2.H a (.frz o (qL a ((kvs.map fun p=>kV p.1)++[w]))),iD P2.μ a⟩ _ sA e2 h2
def Hx (t:DE):DI:=fun ρ μ q=>t ρ μ fun x μ1=>∃ ks:List Dt,x=.mix ks∧q ks μ1
theorem Nh {d:Addr} {o:Obj} {ks:List V}:Runs (R1 d o ks) ks (fun H=>H d=some (.frz o (qL d ks))):=
 ⟨fun H h=>⟨h,Nat.le_refl _⟩,fun i H l h=>⟨h,l⟩,fun i H x H' h y=>.inl y⟩
theorem Du {te:TE} {t:DE} (a:cG K B te t):LiI K B (Hv te) (Hx t):=fun σ P ρ R q hB hE h k=>
 a σ P ρ _ _ hB hE h fun v d P1 s1 r1 ⟨ks,e,h1⟩=>by
  subst e
  cases r1 with
  |@mix p o vs _ hg t=>exact ⟨p,o,vs,rfl,s1.sat.sub.fH hg rfl,k _ _ P1 s1 (oF Nh (fun P' s=>s.sat.sub.fH (s.sf.fH hg rfl) rfl) t) h1⟩
theorem Ci {t u:TS} {td ud:DS} (h:nM K B t td) (g:nM K B u ud):nM K B (fun D σ H=>t D σ H∨u D σ H) (fun d ρ μ=>td d ρ μ∨ud d ρ μ):=fun σ P ρ D d hB hE z k=>z.elim (fun z=>.inl (h σ P ρ D d hB hE z k)) fun z=>.inr (g σ P ρ D d hB hE z k)
end
theorem Hy {X:Cx} {st:Stmt} {t u:TS} (h:PS X st t) (g:PS X st u):PS X st (fun D σ H=>t D σ H∨u D σ H):=⟨fun pins s σ H D I q=>q.elim (h.run pins s σ H D I) (g.run pins s σ H D I)⟩
theorem Ni {k:Nat} {A:Around} (r:Room k A):A.units+4<cLine:=by have:=r.units;omega
end HS
namespace HS
open PySem PySem.Spec PyProof.Rows L2
section
variable {X:Cx} {K:Frag}
theorem zF (hK:X.K=K):CallR X (.builtin "isinstance") (Qh K):=by subst hK;exact iO
end
end HS
namespace HS
open PySem PySem.Spec PyProof.Rows L2
variable [MK]
def gU:Int:=10 ^ 30 - 1
end HS
namespace HS
open PySem PySem.Spec PyProof.Rows L2
section
variable [MK] {K:Frag} {ρ:Ev} {μ:Mu} {t u:DE} {ta tb:DA} {x y d:Dt} {ds es:List Dt} {sp:iP} {w:XQ} {C:Addr} {q:DQ} {E:gX} {s r:DS} {i:Nat} {a:Addr} {f:Str} {fs:List (Str×Dt)} {zs:List Str} {gD:List Dt→List Dt} {n:Nat}
theorem Nj (h:Ve t ρ μ y) (h0:ρ[i]? = some (some (.raw (.ref a)))) (ha:μ a=some (.ins C fs)) (k:E.nx ρ (aJ μ a (.ins C (putD f y fs)))) (l:fs.length<1000:=by decide):K1 C f (kX i) t E ρ μ:=h _ ⟨_,h0,a,fs,rfl,ha,l,k⟩
end
end HS
namespace HS
open PySem PySem.Spec PyProof.Rows L2
inductive IK |sh |ct |tt |mt deriving DecidableEq
structure It where
 k:IK
 ts:List (Str×Int)
 ms:List Int
 w:Int:=0
 h:Str:=Str.empty
 deriving DecidableEq
section
variable [MK]
inductive Wv |name |item |acc (z:Str)|day (i:Int)|many (s:Str) (m:Int) deriving DecidableEq
inductive OR |names |looks |len deriving DecidableEq
end
end HS
namespace HS
open PySem PySem.Spec PyProof.Rows L2
theorem Hz {α:Type} {as:List α} {bad:α→Bool} {k:Nat} {a:α} (h:as[k]? = some a) (hb:bad a=true) (hp:∀ x∈as.take k,bad x=false):as.find? bad=some a:=by
 rw [List.find?_eq_some_iff_append]
 refine ⟨hb,as.take k,as.drop (k+1),?_,fun y hy=>by simpa using hp y hy⟩
 obtain ⟨hl,e⟩:=List.getElem?_eq_some_iff.mp h
 rw [← e]
 simp
section
variable [MK] {K:Frag} {ρ:Ev} {μ:Mu} {t u v:DE} {x y d:Dt} {q:DQ} {E:gX}
theorem Dw {α:Type} {ti:DI} {j:Nat} {s:DS} {as:List α} (i:α→Dt) (bad:α→Bool) {o:Option Dt} (hj:ρ[j]? = some o) (V:Vi ti ρ μ (as.map i))
  (step:∀ (E1:gX) (a:α),a∈as→(bad a=true→as.find? bad=some a)→(bad a=false→E1.nx (ρ.set j (some (i a))) μ)→s E1 (ρ.set j (some (i a))) μ)
  (done:as.find? bad=none→∀ w,E.nx (ρ.set j w) μ):Jt ti (iG j) s E ρ μ:=by
 refine Ca V (uH (fun k ρ' μ'=>μ'=μ∧(∀ x∈as.take k,bad x=false)∧∃ w,ρ'=ρ.set j w) ⟨rfl,fun x hx=>by simp at hx,o,(oJ hj).symm⟩ ?_ ?_)
 ·rintro k x ρ' μ' ⟨rfl,hp,w,rfl⟩ hx
  rw [List.getElem?_map] at hx
  obtain ⟨a,ha,rfl⟩:=Option.map_eq_some_iff.mp hx
  show s _ ((ρ.set j w).set j (some (i a))) μ'
  rw [List.set_set]
  refine step _ a (List.mem_of_getElem? ha) (fun hb=>Hz ha hb hp) fun hb=>⟨rfl,?_,_,rfl⟩
  intro x hx
  rw [List.take_succ,ha] at hx
  rcases List.mem_append.mp hx with h |h
  ·exact hp x h
  ·have:x=a:=by simpa using h
   rw [this]
   exact hb
 ·rintro ρ' μ' ⟨rfl,hp,w,rfl⟩
  refine done ?_ w
  rw [List.find?_eq_none]
  intro x hx
  have:=hp x (by rw [List.length_map,List.take_length];exact hx)
  simp [this]
theorem Ka {a:Addr} {ds:List (Key×Dt)} {k:Key} (f:Ve v ρ μ d) (h:Ve t ρ μ (.raw (.ref a))) (g:Ve u ρ μ y) (hm:μ a=some (.dct ds)) (ek:uC y=some k) (l:ds.length<sizeLine) (k':E.nx ρ (aJ μ a (.dct (gZ ds k d)))):K2 t u v E ρ μ:=f _ (h _ (g _ ⟨a,ds,k,rfl,hm,ek,l,k'⟩))
end
end HS
namespace HS
open PySem PySem.Spec PyProof.Rows L2
section
variable [MK] {K:Frag} {ρ:Ev} {μ:Mu} {t u:DE} {c:DT} {x y:Dt} {E:gX} {r:DS} {i:Nat} {p:Addr} {ds:List Dt} {q:DQ}
theorem R3 {s s':DS} (h:c ρ μ fun b μ1=>if b=true then s E ρ μ1 else s' E ρ μ1):yW c s s' E ρ μ:=h
end
end HS
namespace HS
open PySem PySem.Spec PyProof.Rows L2
section
variable [MK]
inductive RB |name (v:Dt)|Lb (z:Str)
abbrev Ww:=RB→Addr×List (Str×Dt)
inductive Ab |sh (ts:List (Str×Int))|ct (z:Str)|tt (zs:List Str)|mt (ls rs:List Str)
structure Rw where
 ab:Ab
 ms:List Int
 w:Int:=0
 h:Str:=Str.empty
end
end HS
namespace HS
open PySem PySem.Spec PyProof.Rows L2
section
variable [MK] {K:Frag} {ρ:Ev} {μ:Mu} {t u:DE} {x y d:Dt} {q:DQ} {A B C E:DE} {k:IK} {xs ys:List Dt} {v:DA}
theorem Kc (h:Ve t ρ μ x) (e:AG x=some xs) (g:Va v ρ μ ys):Va (FI t v) ρ μ (xs++ys):=fun q k=>h _ ⟨xs,e,g _ k⟩
end
end HS
namespace HS
open PySem PySem.Spec PyProof.Rows L2
section
variable [MK] {ρ:Ev} {μ:Mu} {t:DE} {x:Dt} {xs:List Dt} {is:List Int}
theorem HA (h:Ve t ρ μ x) (e:AG x=some xs):Va (FI t fk) ρ μ xs:=fun q k=>h _ ⟨xs,e,by
 show q (xs++[]) μ
 rw [List.append_nil]
 exact k⟩
end
end HS
namespace HS
open PySem PySem.Spec PyProof.Rows L2
section
variable [MK]
theorem R4 (n:Nat):xO 0 n=(List.range n).map fun k=>Dt.int (k:Nat):=by
 unfold xO
 refine List.map_congr_left fun k _=>?_
 rw [Int.zero_add]
end
end HS
namespace HS
open PySem PySem.Spec PyProof.Rows L2
theorem Dy (xs:List Dt) (k:Nat):cutD xs none (some (k:Int))=xs.take k:=by
 unfold cutD
 have e1:HT.sIx xs.length 0 none=0:=rfl
 have e2:HT.sIx xs.length xs.length (some (k:Int))=min k xs.length:=by
  simp only [HT.sIx]
  rw [if_neg (by omega)]
  simp
 rw [e1,e2,List.drop_zero,Nat.sub_zero]
 by_cases h:k≤xs.length
 ·rw [Nat.min_eq_left h]
 ·rw [Nat.min_eq_right (by omega),List.take_of_length_le (Nat.le_refl _),List.take_of_length_le (by omega)]
end HS
namespace HS
open PySem PySem.Spec PyProof.Rows L2
section
variable [MK] {ρ:Ev} {μ:Mu} {t u:DE} {ta:DA} {q:DQ}
theorem R5 (h:ta ρ μ fun ds μ1=>ds.length≤sizeLine∧q (.lst ds) μ1):Ml ta ρ μ q:=h
end
end HS
namespace HS
open PySem PySem.Spec PyProof.Rows L2
section
variable [MK]
abbrev Uc:List (Key×Dt):=[(.inr (Str.ofString "other"),.str (Str.ofString "none")),(.inr (Str.ofString "nobody"),.str (Str.ofString "A"))]
inductive HE |name (v:Dt)|day (v:Dt)|Lb (v:Dt)
end
end HS
namespace HS
open PySem PySem.Spec PySem.Calls PyProof.Rows L2
section
variable [MK] {X:Cx} {n k:Nat} {A:Around}
abbrev R6:=V→V→Pt→Prop
variable {D:R6}
end
end HS
namespace HS
open PySem PySem.Spec PyProof.Rows L2
section
variable [MK]
inductive OX |days |HB |names |kinds |R7 |looks |Ud |len deriving DecidableEq
end
end HS
namespace HS
open PySem PySem.Spec PyProof.Rows L2
section
variable [MK]
structure Wd where
 n:Int
 Pr:List Str
 rows:List (Str×Rw)
end
end HS
namespace HS
open PySem PySem.Spec PyProof.Rows L2
section
variable [MK]
theorem Nk {j:Int} {i:Nat} {y:Dt} (h:(xO 0 j.toNat)[i]? = some y):i<j.toNat∧y=.int (i:Nat):=by
 rw [R4,List.getElem?_map] at h
 obtain ⟨k,hk,rfl⟩:=Option.map_eq_some_iff.mp h
 obtain ⟨h1,h2⟩:=List.getElem?_eq_some_iff.mp hk
 rw [List.length_range] at h1
 rw [List.getElem_range] at h2
 exact ⟨h1,by rw [h2]⟩
end
end HS
namespace HS
open PySem PySem.Spec PyProof.Rows L2
def Wx (z:Str):Prop:=∀ c∈z.cps.toList,c<0x110000
end HS
namespace HS
open PySem PySem.Spec PyProof.Rows L2
section
variable [MK]
inductive MB |times |many (s:Str) (m:Int) deriving DecidableEq
variable {K:Frag} {c:IK→Addr} {Cs:List Addr} {ρ:Ev} {μ:Mu} {ta:DA} {w:XQ} {q:DQ}
end
end HS
namespace HS
open PySem PySem.Spec PyProof.Rows L2
section
variable [MK]
variable {K:Frag} {c:IK→Addr} {Cs:List Addr} {ρ:Ev} {μ:Mu} {t u:DE} {w:XQ} {q:DQ} {v:Dt} {CO CK:Addr} {n:Int} {Pr:List Str} {its:List (Str×It)}
theorem ya {ds:List (Key×Dt)} {k:Key} {v:Dt} (h:k∉ds.map (·.1)):gZ ds k v=ds++[(k,v)]:=by
 unfold gZ
 rw [if_neg]
 intro e
 obtain ⟨p,hp,q⟩:=List.any_eq_true.mp e
 exact h (List.mem_map.mpr ⟨p,hp,aN q⟩)
end
end HS
namespace HS
open PySem PySem.Spec PyProof.Rows L2
inductive SB |days |use (i:Int)|many (s:Str) (m:Int) deriving DecidableEq
inductive Wy |day (v:Dt)|sb (b:SB)
end HS
namespace HS
open PySem PySem.Spec PySem.Calls PyProof.Rows L2
section
variable [MK] {X:Cx} {n k:Nat} {c:IK→Addr}
abbrev R8:=V→V→Bool→Pt→Prop
variable {D:R8}
end
end HS
namespace HS
open PySem PySem.Spec PyProof.Rows L2
inductive UB |days |HB |Lb (z:Str)|many (s:Str) (m:Int) deriving DecidableEq
end HS
namespace HS
open PySem PySem.Spec PyProof.Rows L2
section
variable [MK]
inductive LB |look (i:Int)|many (s:Str) (m:Int)
variable {its:List (Str×It)} {n:Int}
end
end HS
namespace HS
open PySem PySem.Spec PyProof.Rows L2
abbrev Gm:=List (Str×Rat)
abbrev Tl:=List (Str×(Dt×Rat))
section
variable [MK]
def Dz (CA:Addr) (gs:Gm):List (Key×Dt):=gs.map fun g=>(.inr g.1,aQ CA g.2)
def Qx (CG CA:Addr) (gs:Gm):Dt:=.ins CG [(Str.ofString "gap_of",.dct (Dz CA gs))]
def qx (gs:Gm) (z:Str):Rat:=((gs.find? fun g=>decide (g.1=z)).map (·.2)).getD 0
def vK (ks:List Str) (f:Str→Rat):Gm:=((iY ks).filter fun z=>decide (f z≠0)).map fun z=>(z,f z)
structure Ld (n:Nat) (gs:Gm):Prop where
 nm:∀ g∈gs,bO (.str g.1)=true
 nd:(gs.map (·.1)).Nodup
 srt:sortedS (gs.map (·.1))=true
 nz:∀ g∈gs,g.2≠0
 zr:∀ g∈gs,Zr n g.2
 len:gs.length≤40
def Cj (us:Tl):List (Key×Dt):=us.map fun u=>(.inr u.1,u.2.1)
def DB (us:Tl) (z:Str):Rat:=((us.find? fun u=>decide (u.1=z)).map (·.2.2)).getD 0
structure Kd (CA:Addr) (n:Nat) (us:Tl):Prop where
 nm:∀ u∈us,bO (.str u.1)=true
 nd:(us.map (·.1)).Nodup
 nq:∀ u∈us,nQ CA u.2.1 u.2.2
 zr:∀ u∈us,Zr n u.2.2
 len:us.length≤40
def Ke (us:Tl):Gm:=vK (us.map (·.1)) (DB us)
def HC:iP:=fun ds μ q _=>∃ (kvs:List (Key×Dt)) (zs:List Str),ds=[.dct kvs]∧kvs.map (·.1)=zs.map Sum.inr∧zs.length≤60∧q (.lst ((iY zs).map Dt.str)) μ
def DC (CA:Addr):iP:=fun ds μ q _=>∃ v:Dt,ds=[v]∧((v=.non∧q (.dct []) μ)∨∃ us:Tl,v=.dct (Cj us)∧Kd CA 7900 us∧q (.dct (Dz CA (Ke us))) μ)
inductive R9 (CA:Addr):Dt→Gm→Prop
 |non:R9 CA .non []
 |tl (us:Tl) (h:Kd CA 7900 us):R9 CA (.dct (Cj us)) (Ke us)
def HD (CG CA:Addr):iP:=fun ds μ q _=>∃ (a:Addr) (v:Dt) (gs:Gm),ds=[.raw (.ref a),v]∧μ a=some (.ins CG [])∧R9 CA v gs∧q .non (aJ μ a (.ins CG [(Str.ofString "gap_of",.dct (Dz CA gs))]))
def Ck (CG CA:Addr):iP:=fun ds μ q _=>∃ (gs:Gm) (z:Str),ds=[Qx CG CA gs,.str z]∧bO (.str z)=true∧q (aQ CA (qx gs z)) μ
def DF (ts:List (Str×Int)) (gs:Gm):Rat:=j9 (ts.map fun t=>qx gs t.1*(t.2:Rat))
def Kf (Cs:List Addr) (CG CA:Addr):iP:=fun ds μ q _=>∃ (C:Addr) (ts:List (Str×Int)) (r:List (Str×Dt)) (gs:Gm),ds=[zv C ts r,Qx CG CA gs]∧C∈Cs∧kZ ts∧Ld 300 gs∧q (aQ CA (DF ts gs)) μ
theorem Cm (CA:Addr) (z:Str):∀ gs:Gm,valD (Dz CA gs) (.inr z)=(gs.find? fun g=>decide (g.1=z)).map fun g=>aQ CA g.2
 |[]=>rfl
 |g::gs=>by
  have ih:=Cm CA z gs
  unfold valD Dz at ih ⊢
  rw [List.map_cons,List.find?_cons,List.find?_cons]
  by_cases e:g.1=z
  ·rw [decide_eq_true (by rw [e]:(Sum.inr g.1:Key)=.inr z),decide_eq_true e]
   rfl
  ·rw [decide_eq_false (fun h=>e (Sum.inr.inj h):¬ (Sum.inr g.1:Key)=.inr z),decide_eq_false e]
   exact ih
theorem HF (CA:Addr) (gs:Gm) (z:Str):(valD (Dz CA gs) (.inr z)).getD (aQ CA 0)=aQ CA (qx gs z):=by
 rw [Cm]
 unfold qx
 cases gs.find? fun g=>decide (g.1=z) <;> rfl
theorem Cn {n:Nat} {gs:Gm} (h:∀ g∈gs,Zr n g.2) (z:Str) (hn:1≤n):Zr n (qx gs z):=by
 unfold qx
 cases e:gs.find? fun g=>decide (g.1=z) with
 |none=>exact z0.mono hn
 |some g=>exact h g (List.mem_of_find?_eq_some e)
theorem Co {us:Tl} (nd:(us.map (·.1)).Nodup) {u:Str×(Dt×Rat)} (h:u∈us):DB us u.1=u.2.2∧valD (Cj us) (.inr u.1)=some u.2.1:=by
 induction us with
 |nil=>cases h
 |cons v us ih=>
  rw [List.map_cons,List.nodup_cons] at nd
  unfold DB Cj valD
  rw [List.find?_cons,List.map_cons,List.find?_cons]
  rcases List.mem_cons.mp h with rfl |h
  ·rw [decide_eq_true rfl,decide_eq_true rfl]
   exact ⟨rfl,rfl⟩
  ·have ne:¬ v.1=u.1:=fun e=>nd.1 (by rw [e];exact List.mem_map_of_mem h)
   rw [decide_eq_false ne,decide_eq_false (fun e=>ne (Sum.inr.inj e))]
   exact ih nd.2 h
theorem zG (ks:List Str) (f:Str→Rat):(vK ks f).map (·.1)=(iY ks).filter fun z=>decide (f z≠0):=by
 unfold vK
 rw [List.map_map]
 exact List.map_id _
theorem q7 {ks:List Str} {f:Str→Rat} {g:Str×Rat} (h:g∈vK ks f):g.1∈ks∧f g.1=g.2∧g.2≠0:=by
 unfold vK at h
 obtain ⟨z,hz,rfl⟩:=eX h
 obtain ⟨h1,h2⟩:=List.mem_filter.mp hz
 exact ⟨(cK _).mem_iff.mp h1,rfl,by simpa using h2⟩
theorem zH (p:Str→Bool) {l:List Str} (h:sortedS l=true):sortedS (l.filter p)=true:=wI ((se h).filter p)
theorem Nl {n:Nat} {ks:List Str} {f:Str→Rat} (hk:∀ z∈ks,bO (.str z)=true) (nd:ks.Nodup) (hz:∀ z∈ks,Zr n (f z)) (l:ks.length≤40):Ld n (vK ks f):=by
 refine ⟨fun g hg=>hk _ (q7 hg).1,?_,?_,fun g hg=>(q7 hg).2.2,fun g hg=>?_,?_⟩
 ·rw [zG]
  exact ((cK _).nodup_iff.mpr nd).filter _
 ·rw [zG]
  exact zH _ (qW _)
 ·rw [← (q7 hg).2.1]
  exact hz _ (q7 hg).1
 ·unfold vK
  rw [List.length_map]
  refine Nat.le_trans (List.length_filter_le _ _) ?_
  rw [(cK ks).length_eq]
  exact l
theorem Nm {CA:Addr} {n:Nat} {us:Tl} (h:Kd CA n us):Ld n (Ke us):=Nl (fun z hz=>by
 obtain ⟨u,hu,rfl⟩:=eX hz
 exact h.nm u hu) h.nd (fun z hz=>by
 obtain ⟨u,hu,rfl⟩:=eX hz
 rw [(Co h.nd hu).1]
 exact h.zr u hu) (by rw [List.length_map];exact h.len)
theorem Kg {ks:List Str} {f:Str→Rat} (z:Str) (h:z∉ks→f z=0):qx (vK ks f) z=f z:=by
 unfold qx
 cases e:(vK ks f).find? fun g=>decide (g.1=z) with
 |some g=>
  have h1:=List.find?_some e
  have h1:g.1=z:=by simpa using h1
  have h2:=(q7 (List.mem_of_find?_eq_some e)).2.1
  show g.2=f z
  rw [← h2,h1]
 |none=>
  show 0=f z
  symm
  by_cases m:z∈ks
  ·refine Classical.byContradiction fun n=>?_
   have:(z,f z)∈vK ks f:=List.mem_map.mpr ⟨z,List.mem_filter.mpr ⟨(cK _).mem_iff.mpr m,by simpa using n⟩,rfl⟩
   have:=List.find?_eq_none.mp e _ this
   simp at this
  ·exact h m
theorem HG {us:Tl} {z:Str} (h:z∉us.map (·.1)):DB us z=0:=by
 unfold DB
 rw [List.find?_eq_none.mpr fun u hu=>by
  simp only [decide_eq_true_eq]
  rintro rfl
  exact h (List.mem_map_of_mem hu)]
 rfl
theorem Kh (us:Tl) (z:Str):qx (Ke us) z=DB us z:=Kg z HG
def zI (f:Str→Rat) (zs:List Str):Gm:=(zs.filter fun z=>decide (f z≠0)).map fun z=>(z,f z)
theorem wN {f:Str→Rat} {zs:List Str} {i:Nat} {z:Str} (h:zs[i]? = some z):zI f (zs.take (i+1))=zI f (zs.take i)++if f z≠0 then [(z,f z)] else []:=by
 unfold zI
 rw [List.take_succ,h,List.filter_append,List.map_append]
 congr 1
 show ((([z]:List Str).filter fun z=>decide (f z≠0)).map fun z=>(z,f z))=_
 by_cases e:f z=0
 ·rw [if_neg (fun n=>n e)]
  simp [e]
 ·rw [if_pos e]
  simp [e]
theorem A5 {f:Str→Rat} {zs:List Str} {i:Nat} {z:Str} (nd:zs.Nodup) (h:zs[i]? = some z) (CA:Addr):(.inr z:Key)∉(Dz CA (zI f (zs.take i))).map (·.1):=by
 intro m
 unfold Dz zI at m
 rw [List.map_map,List.map_map] at m
 obtain ⟨y,hy,e⟩:=eX m
 have e:y=z:=Sum.inr.inj e
 subst e
 have h1:=(List.mem_filter.mp hy).1
 obtain ⟨j,hj⟩:=List.mem_iff_getElem?.mp h1
 have lj:j<i:=by
  have:=(List.getElem?_eq_some_iff.mp hj).1
  rw [List.length_take] at this
  omega
 rw [List.getElem?_take_of_lt lj] at hj
 have e1:=List.getElem?_eq_some_iff.mp hj
 have e2:=List.getElem?_eq_some_iff.mp h
 obtain ⟨l1,v1⟩:=e1
 obtain ⟨l2,v2⟩:=e2
 have:=(List.pairwise_iff_getElem.mp nd) j i l1 l2 lj
 exact this (v1.trans v2.symm)
end
end HS
namespace HS
open PySem PySem.Spec PyProof.Rows L2
inductive LO |Wz (ts:List (Str×Int))|it (i:It)
end HS
namespace HS
open PySem PySem.Spec PyProof.Rows L2
inductive IX |part (s:Str)|day (v:Dt)
abbrev Ue:=IX→Addr×List (Str×Dt)
section
variable [MK]
variable {K:Frag} {c:IK→Addr} {ix:Ue} {ρ:Ev} {μ:Mu} {q:DQ} {w:XQ} {ta tk:DA}
theorem Kl {C:Addr} {f:Str} {t:DE} {E:gX} {d:Dt} (h:Ve t ρ μ d) (k:w C [(f,d)] ρ μ):BJ C f w (bD t fk) E ρ μ:=h _ ⟨_,rfl,k⟩
end
end HS
namespace HS
open PySem PySem.Spec PyProof.Rows L2
section
variable [MK]
theorem Cp {i:Int} (h:fB (.int i) 9=true):Zr 4 (i:Rat):=by
 have : -9≤i∧i≤9:=by
  simp only [fB,Bool.and_eq_true,decide_eq_true_eq] at h
  omega
 exact Zr.int (by unfold Sz;omega) (by decide)
def yb (ts:List (Str×Int)) (gs:Gm):List Rat:=ts.map fun t=>qx gs t.1*(t.2:Rat)
theorem Km {ts:List (Str×Int)} {gs:Gm} (ht:kZ ts) {n:Nat} (hn:1≤n) (hg:∀ g∈gs,Zr n g.2):∀ r∈yb ts gs,Zr (n+4) r:=fun r hr=>by
 obtain ⟨t,m,rfl⟩:=eX hr
 exact (Cn hg t.1 hn).mul (Cp (ht.1 t m).2)
theorem zJ {ts:List (Str×Int)} {gs:Gm} (ht:kZ ts) (hg:Ld 300 gs):(∀ k,k≤(yb ts gs).length→Zr 3900 (j9 ((yb ts gs).take k)))∧∀ r∈yb ts gs,Zr 3900 r:=JH (n:=304) (Km ht (by decide) hg.zr) (by
 have:(yb ts gs).length≤12:=by unfold yb;rw [List.length_map];exact ht.2.2
 omega)
theorem HH (C:Addr) (qs:List Rat):VO C (qs.map (aQ C)) qs:=⟨by simp,fun i v r e1 e2=>by
 rw [List.getElem?_map,e2] at e1
 cases e1
 exact vI⟩
theorem Nn {K:Frag} {C:Addr} {v:Dt} {r:Rat} {μ:Mu} (h:nQ C v r) (q:DQ) (x:Addr→List (Str×Dt)→Mu→Prop) (k:q (.bl true) μ):qT K C [v] μ q x:=by
 rcases h with ⟨i,rfl,_⟩|rfl
 ·exact ⟨_,rfl,.inr ⟨rfl,k⟩⟩
 ·exact ⟨_,rfl,.inl ⟨kN,k⟩⟩
variable {ρ:Ev} {μ:Mu} {t u:DE}
theorem Cq {C:Addr} {a:Rat} (h:Ve t ρ μ (aQ C a)):Vt (KZ C (Gy C) t) ρ μ (decide (a≠0)):=fun q k=>h _ ⟨kN,a,rfl,_,rfl,k⟩
theorem Np {CG CA:Addr} {gs:Gm} {z:Str} {n:Nat} (h:Ve t ρ μ (Qx CG CA gs)) (g:Ve u ρ μ (.str z)) (hz:bO (.str z)=true) (hn:∀ y∈gs,Zr n y.2) (h1:1≤n):VN CA (K7 CG (Ck CG CA) t u) ρ μ (aQ CA (qx gs z)) (qx gs z) n:=⟨fun q k=>h _ (g _ ⟨⟨_,rfl⟩,gs,z,rfl,hz,k⟩),vI,Cn hn z h1⟩
end
end HS
namespace HS
open PySem PySem.Spec PyProof.Rows L2
section
variable [MK] {K:Frag} {B:Pt}
theorem lE.set {μ:Mu} {v:Dt} {ds:List (Key×Dt)} (h:lE μ v ds) {x C:Addr} (hx:μ x=none):lE (aJ μ x (.ins C [])) v ds:=h.imp id fun ⟨p,e,hm,nm⟩=>⟨p,e,by rw [aX (fun z=>by rw [z,hx] at hm;cases hm)];exact hm,fun a o e=>by
 by_cases z:a=x
 ·rw [z,aq] at e
  cases e
  exact fun p h=>nomatch h
 ·rw [aX z] at e
  exact nm a o e⟩
variable {c:IK→Addr} {ix:Ue} {ρ:Ev} {μ:Mu} {q:DQ} {w:XQ} {ta tk:DA}
end
end HS
namespace HS
open PySem PySem.Spec PyProof.Rows L2
inductive NL:Dt→Prop
 |non:NL .non
 |bl (b:Bool):NL (.bl b)
 |int (i:Int):NL (.int i)
 |str (x:Str):NL (.str x)
 |raw (v:V):NL (.raw v)
 |tup {ds:List Dt} (h:∀ d∈ds,NL d):NL (.tup ds)
 |dct {ds:List (Key×Dt)} (h:∀ p∈ds,NL p.2):NL (.dct ds)
 |ins {C:Addr} {fs:List (Str×Dt)} (h:∀ p∈fs,NL p.2):NL (.ins C fs)
end HS
namespace HS
open PySem PySem.Spec PyProof.Rows L2
section
variable [MK]
theorem Nq {ρ:Ev} {μ:Mu} {q:DQ} {t u:DE} {ds:List Dt} (h:Ve t ρ μ (.lst ds)) (k:u ρ μ fun x μ1=>∃ i,x=.int i∧∃ es,Dt.lst ds=.lst es∧q (.lst (cutD es none (some i))) μ1):Tz OE t BE (KY u) ρ μ q:=h _ k
end
end HS
namespace HS
open PySem PySem.Spec PyProof.Rows L2
section
variable [MK]
def cm (z:Str):Nat:=(TL.tl z).count 44
end
end HS
namespace HS
open PySem PySem.Spec PyProof.Rows L2
abbrev WA:=List V→Hp→(Hp→Prop)→Prop
end HS
namespace HS
open PySem PySem.Spec PyProof.Rows L2
abbrev Pm:=List (Str×Rat)
section
variable [MK] {m n:Nat} {a b c:Rat} {ps qs:Pm} {z:Str} {zs:List Str}
def Cr:iP:=fun ds μ q _=>∃ ns:List Int,ds=[.BA ns]∧ns.length≤63∧(∀ z∈ns,Sz 1048576 z)∧∀ μ',q (.bl true) μ'
end
end HS
namespace HS
open PySem PySem.Spec PyProof.Rows L2
section
variable [MK] {m n:Nat} {rs hs:Gm} {c:Rat} {ts:List (Str×Int)}
theorem HJ:∀ us:Tl,tL (us.map fun u=>Dt.tup [.str u.1,u.2.1])=some (Cj us)
 |[]=>rfl
 |u::us=>by
  have ih:=HJ us
  show (match some (Sum.inr u.1:Key),tL (us.map fun u=>Dt.tup [.str u.1,u.2.1]) with |some k,some l=>some ((k,u.2.1)::l)|_,_=>none)=_
  rw [ih]
  rfl
theorem Kn (us:Tl):(Cj us).map (·.1)=(us.map (·.1)).map Sum.inr:=by
 unfold Cj
 rw [List.map_map,List.map_map]
 rfl
end
end HS
namespace HS
open PySem PySem.Spec PySem.Calls PyProof.Rows PySem.W
open L2
abbrev Spot:=Int×Str
abbrev Ug:=List (Spot×Rat)
end HS
namespace HS
open PySem PySem.Spec PyProof.Rows L2
section
variable [MK] {m n k:Nat} {f g:Str→Rat} {zs:List Str} {c:Rat} {gs:Gm} {ts us:List (Str×Int)}
theorem fP (q:Rat) (qs:List Rat):j9 (q::qs)=q+j9 qs:=by
 have F:∀ (l:List Rat) (a:Rat),l.foldl (· + ·) a=a+l.foldl (· + ·) 0:=by
  intro l
  induction l with
  |nil=>intro a;show a=a+0;rw [Rat.add_zero]
  |cons x l ih=>
   intro a
   rw [List.foldl_cons,List.foldl_cons,ih (a+x),ih (0+x)]
   grind
 unfold j9
 rw [List.foldl_cons,F]
 grind
theorem zK:j9 []=0:=rfl
end
end HS
namespace HS
open PySem PySem.Spec PyProof.Rows L2
structure GX where
 prog:Program
 w:World
 K:Frag
 mg:Str→Option Value
 base:Heap
 N:List Str
 env:PySem.Env
 outer:List PySem.Env
 A:Around
 z:Nat
 s0:Shared
 a:Addr
end HS
namespace HS
open PySem PySem.Spec PyProof.Rows L2 GenW
structure VW (S:Type) where
 nx:S→Nat→Ev→Mu→Prop
 rt:S→Mu→Prop
 yl:S→Dt→Mu→(S→Mu→Prop)→Prop
 bk:S→Nat→Ev→Mu→Prop:=fun _ _ _ _=>False
 ct:S→Nat→Ev→Mu→Prop:=fun _ _ _ _=>False
abbrev WB:=∀ (S:Type),VW S→S→Nat→Ev→Mu→Prop
end HS
namespace HS
open PySem PySem.Spec PyProof.Rows L2 GenW
abbrev VX:=List Dt→∀ (S:Type),S→Nat→Mu→(S→Dt→Mu→(S→Mu→Prop)→Prop)→(S→Mu→Prop)→Prop
end HS
namespace HS
open PySem PySem.Spec PyProof.Rows L2 GenW
abbrev Sh:=∀ (S:Type),S→Nat→Mu→(S→Dt→Mu→(S→Mu→Prop)→Prop)→(S→Mu→Prop)→Prop
abbrev VY:=Ev→Mu→(Sh→Mu→Prop)→Prop
end HS
namespace HS
open PySem PySem.Spec PySem.Calls PyProof.Rows L2
structure RP where
 CR:Addr
 CK:Addr
 CA:Addr
 Cs:List Addr
 c:IK→Addr
structure WC where
 n:Int
 Pr:List Str
 its:List (Str×It)
 m:Int
 ss:Ug
section
variable [MK] (K:Frag) (R:RP)
inductive RO |days |listed
end
end HS
namespace HS
open PySem PySem.Spec PySem.Calls PyProof.Rows L2
structure VZ where
 n:Nat
 zs:List Str
 cnt:List (List Str)
 WD:List Int
end HS
namespace HS
open PySem PySem.Spec PySem.Calls PyProof.Rows L2
structure KR where
 ts:List (Str×Int)
 ms:List Int
 w:Int
structure CR where
 so:IK
 ls:List Str
 rs:List Str
 ms:List Int
structure Uh where
 n:Nat
 zs:List Str
 ks:List (Str×KR)
 cs:List (Str×CR)
end HS
namespace HS
open PySem PySem.Spec PySem.Calls PyProof.Rows L2
section
variable [MK]
variable {ρ:Ev} {μ:Mu} {t u:DE} {s:Uh}
def subs {α:Type}:List α→List (List α)
 |[]=>[[]]
 |a::l=>subs l++(subs l).map (a :: ·)
end
end HS
namespace HS
open PySem PySem.Spec PySem.Calls PyProof.Rows L2
section
variable [MK] {s:Uh} {z:Str} {r:KR} {m k:Nat} {ss:Ug} {ps:Pm} {f:Str→Rat}
theorem wO {xs ys:List Rat} (p:xs.Perm ys):j9 xs=j9 ys:=by
 induction p with
 |nil=>rfl
 |cons x _ ih=>rw [fP,fP,ih]
 |swap x y l=>
  rw [fP,fP,fP,fP]
  grind
 |trans _ _ h1 h2=>exact h1.trans h2
end
end HS
namespace HS
open PySem PySem.Spec PySem.Calls PyProof.Rows L2
structure Ui where
 ts:List (Str×Int)
 ms:List Int
 w:Int
 h:Str
structure V1 where
 ls:List Str
 rs:List Str
 ms:List Int
structure V2 where
 n:Nat
 zs:List Str
 ks:List (Str×Ui)
 cs:List (Str×V1)
end HS
namespace HS
open PySem PySem.Spec PySem.Calls PyProof.Rows L2
structure V3 where
 es:List (Str×Rat)
 ls:List (Spot×Rat)
end HS
namespace HS
open PySem PySem.Spec PyProof.Rows L2
section
variable [MK] {s:V2} {w:V3}
theorem Ct {n:Nat} {t u:Int} {r:Rat} (h0:u≠0) (e:(t:Rat)=r*(u:Rat)) (ht:Sz n t) (hu:Sz n u):Zr n r:=.xR (qS h0 e) ht hu
end
end HS
namespace HS
open PySem PySem.Spec PySem.Calls PyProof.Rows L2
inductive Dd where
 |enter (z:Str) (r:Rat)|take (z:Str) (r:Rat)|close
structure Sd where
 f:Str→Rat
 day:Nat
 Si:Rat
 done:Option Dd
end HS
namespace HS
open PySem PySem.Spec PySem.Calls PyProof.Rows L2
section
variable [MK]
structure W8 where
 n:Nat
 zs:List Str
 ks:List (Str×Ui)
 cs:List (Str×CR)
end
end HS
namespace HS
open PySem PySem.Spec PySem.Calls PyProof.Rows L2
inductive D8 where
 |en (z:Str) (t:Int)|tk (z:Str) (t:Int)|cl
structure WG where
 g:Str→Int
 day:Nat
 Si:Int
 ds:List D8
end HS
namespace HS
open PySem PySem.Spec PyProof.Rows L2
section
variable [MK]
abbrev zL:=List (Str×(Int×Int))
structure Fq (x:Int×Int):Prop where
 t:Sz 97 x.1
 b1:1≤x.2
 b:Sz 97 x.2
def frT (x:Int×Int):Dt:=.tup [.int x.1,.int x.2]
def yc (fs:zL):List (Key×Dt):=fs.map fun p=>(.inr p.1,frT p.2)
def rK (fs:zL) (z:Str):Int×Int:=((fs.find? fun p=>decide (p.1=z)).map (·.2)).getD (0,1)
def vL (x:Int×Int):Rat:=(x.1:Rat) / (x.2:Rat)
def dX (fs:zL) (a:Int×Int) (t:Str×Int):Int×Int:=(a.1*(rK fs t.1).2+t.2*(rK fs t.1).1*a.2,a.2*(rK fs t.1).2)
def ee (fs:zL) (ts:List (Str×Int)):Int×Int:=ts.foldl (dX fs) (0,1)
theorem HK {fs:zL} (h:∀ p∈fs,Fq p.2) (z:Str):Fq (rK fs z):=by
 unfold rK
 cases e:fs.find? fun p=>decide (p.1=z) with
 |none=>exact ⟨by show Sz 97 0;unfold Sz;decide,by decide,by show Sz 97 1;unfold Sz;decide⟩
 |some p=>exact h p (List.mem_of_find?_eq_some e)
theorem A6 (z:Str):∀ fs:zL,valD (yc fs) (.inr z)=(fs.find? fun p=>decide (p.1=z)).map fun p=>frT p.2
 |[]=>rfl
 |g::gs=>by
  have ih:=A6 z gs
  unfold valD yc at ih ⊢
  rw [List.map_cons,List.find?_cons,List.find?_cons]
  by_cases e:g.1=z
  ·rw [decide_eq_true (by rw [e]:(Sum.inr g.1:Key)=.inr z),decide_eq_true e]
   rfl
  ·rw [decide_eq_false (fun h=>e (Sum.inr.inj h):¬ (Sum.inr g.1:Key)=.inr z),decide_eq_false e]
   exact ih
theorem Ko (fs:zL) (z:Str):(valD (yc fs) (.inr z)).getD (.tup [.int 0,.int 1])=frT (rK fs z):=by
 rw [A6]
 unfold rK
 cases fs.find? fun p=>decide (p.1=z) <;> rfl
theorem zM {fs:zL} (hf:∀ p∈fs,Fq p.2):∀ (ts:List (Str×Int)) (a:Int×Int) (S:Rat) (n:Nat),(∀ t∈ts,Sz 4 t.2)→1≤a.2→Sz (110*n+1) a.1→Sz (97*n+1) a.2→(a.1:Rat)=S*(a.2:Rat)→
  1≤(ts.foldl (dX fs) a).2∧Sz (110*(n+ts.length)+1) (ts.foldl (dX fs) a).1∧Sz (97*(n+ts.length)+1) (ts.foldl (dX fs) a).2∧((ts.foldl (dX fs) a).1:Rat)=(S+j9 (ts.map fun t=>vL (rK fs t.1)*(t.2:Rat)))*((ts.foldl (dX fs) a).2:Rat)
 |[],a,S,n,_,h1,h2,h3,e=>⟨h1,h2,h3,by rw [List.map_nil,zK];show (a.1:Rat)=_;rw [e];show _=(S+0)*(a.2:Rat);grind⟩
 |t::ts,a,S,n,hc,h1,h2,h3,e=>by
  have f:=HK hf t.1
  have c:=hc t List.mem_cons_self
  have b':1≤(dX fs a t).2:=by
   show 1≤a.2*(rK fs t.1).2
   have:=Int.mul_le_mul h1 f.b1 (by decide) (by omega)
   omega
  have z1:Sz (110*(n+1)+1) (dX fs a t).1:=by
   have x:=(h2.mul f.b).add (((c.mul f.t).mul h3))
   exact x.mono (by omega)
  have z2:Sz (97*(n+1)+1) (dX fs a t).2:=(h3.mul f.b).mono (by omega)
  have e2:((dX fs a t).1:Rat)=(S+vL (rK fs t.1)*(t.2:Rat))*((dX fs a t).2:Rat):=by
   have b0:((rK fs t.1).2:Rat)≠0:=by
    have:=f.b1
    exact_mod_cast (by omega:(rK fs t.1).2≠0)
   have hq:vL (rK fs t.1)*((rK fs t.1).2:Rat)=((rK fs t.1).1:Rat):=by
    unfold vL
    grind
   show ((a.1*(rK fs t.1).2+t.2*(rK fs t.1).1*a.2:Int):Rat)=_*((a.2*(rK fs t.1).2:Int):Rat)
   push_cast
   rw [e,← hq]
   grind
  obtain ⟨r1,r2,r3,r4⟩:=zM hf ts (dX fs a t) _ (n+1) (fun u hu=>hc u (List.mem_cons_of_mem _ hu)) b' z1 z2 e2
  refine ⟨r1,?_,?_,?_⟩
  ·rw [List.length_cons,show n+(ts.length+1)=n+1+ts.length from by omega]
   exact r2
  ·rw [List.length_cons,show n+(ts.length+1)=n+1+ts.length from by omega]
   exact r3
  ·rw [List.map_cons,fP]
   refine Eq.trans (show (((t::ts).foldl (dX fs) a).1:Rat)=((ts.foldl (dX fs) (dX fs a t)).1:Rat) from rfl) (r4.trans ?_)
   show _=_*((ts.foldl (dX fs) (dX fs a t)).2:Rat)
   grind
theorem zN {fs:zL} (hf:∀ p∈fs,Fq p.2) {ts:List (Str×Int)} (hc:∀ t∈ts,Sz 4 t.2):1≤(ee fs ts).2∧Sz (110*ts.length+1) (ee fs ts).1∧Sz (97*ts.length+1) (ee fs ts).2∧
  ((ee fs ts).1:Rat)=j9 (ts.map fun t=>vL (rK fs t.1)*(t.2:Rat))*((ee fs ts).2:Rat):=by
 obtain ⟨r1,r2,r3,r4⟩:=zM hf ts (0,1) 0 0 hc (by decide) (by show Sz 1 0;unfold Sz;decide) (by show Sz 1 1;unfold Sz;decide) (by show ((0:Int):Rat)=0*((1:Int):Rat);grind)
 rw [Nat.zero_add] at r2 r3
 refine ⟨r1,r2,r3,r4.trans ?_⟩
 show (0+_)*_=_
 unfold ee
 grind
theorem A7 (fs:zL) (ts:List (Str×Int)) (t:Str×Int):ee fs (ts++[t])=dX fs (ee fs ts) t:=by
 unfold ee
 rw [List.foldl_append]
 rfl
def Kq:iP:=fun ds μ q _=>∃ (p:Addr) (n:Nat),ds=[.raw (.ref p)]∧μ p=some (.jD n)∧n≤10000000∧∀ x:Int×Int,Fq x→q (frT x) (aJ μ p (.jD (n+3)))
def Nr:iP:=fun ds μ q _=>∃ (ts:List (Str×Int)) (fs:zL),ds=[.dct (nR ts),.dct (yc fs)]∧kZ ts∧(∀ p∈fs,Fq p.2)∧q (frT (ee fs ts)) μ
def Kr:iP:=fun ds μ q _=>∃ (p:Addr) (n:Nat),ds=[.raw (.ref p)]∧μ p=some (.jD n)∧n≤1000000∧∀ n':Nat,n≤n'→n'≤n+40→q (.bl true) (aJ μ p (.jD n'))
def uf (us:List (Str×Dt)):List (Key×Dt):=us.map fun u=>(.inr u.1,u.2)
inductive sj (K:Frag) (μ:Mu):Dt→Str→Prop
 |parts {v:Dt} (h:r7 K μ v) (no:isT "dict" v=false):sj K μ v (Str.ofString "parts")
 |acc {v:Dt} {us:List (Str×Dt)} (h:lE μ v (uf us)) (l:∀ u∈us,u.1.length≤sizeLine) (n:us.length≤60) (b:(us.all fun u=>bO (.str u.1))=false):sj K μ v (Str.ofString "account")
 |part {v:Dt} {us:List (Str×Dt)} (h:lE μ v (uf us)) (nd:(us.map (·.1)).Nodup) (n:us.length≤60) (a:∀ u∈us,bO (.str u.1)=true) (k:∀ u∈us,∀ μ,r7 K μ u.2) (b:(us.all fun u=>fB u.2 9)=false):sj K μ v (Str.ofString "part")
 |mix {ks:List Dt} (k:∀ d∈ks,∀ μ,r7 K μ d) (l:∀ z,Dt.str z∈ks→z.length≤sizeLine) (n:ks.length≤60) (b:(ks.all bO)=false):sj K μ (.mix ks) (Str.ofString "account")
def A8 (K:Frag) (Cs:List Addr) (CB:Addr):iP:=fun ds μ q x=>∃ (a:Addr) (v:Dt),ds=[.raw (.ref a),v]∧(Nc Cs ds μ q x∨∃ (C:Addr) (s:Str),C∈Cs∧μ a=some (.ins C [])∧sj K μ v s∧x CB [(Str.ofString "part",.str s)] μ)
def HL (K:Frag):iP:=fun ds μ q _=>∃ v:Dt,ds=[v]∧((∃ ts,lE μ v (nR ts)∧kZ ts∧q .non μ)∨∃ s,(∀ x C,μ x=none→sj K (aJ μ x (.ins C [])) v s)∧q (.str s) μ)
def A9:iP:=fun ds μ q _=>∃ (p:Addr) (n:Nat),ds=[.raw (.ref p)]∧μ p=some (.jD n)∧n≤1000000∧∀ n':Nat,n≤n'→n'≤n+40→q (.bl true) (aJ μ p (.jD n'))
theorem HM (z:Str):∀ us:List (Str×Dt),valD (uf us) (.inr z)=(us.find? fun u=>decide (u.1=z)).map (·.2)
 |[]=>rfl
 |g::gs=>by
  have ih:=HM z gs
  unfold valD uf at ih ⊢
  rw [List.map_cons,List.find?_cons,List.find?_cons]
  by_cases e:g.1=z
  ·rw [decide_eq_true (by rw [e]:(Sum.inr g.1:Key)=.inr z),decide_eq_true e]
   rfl
  ·rw [decide_eq_false (fun h=>e (Sum.inr.inj h):¬ (Sum.inr g.1:Key)=.inr z),decide_eq_false e]
   exact ih
theorem wQ {α:Type} {us:List (Str×α)} (nd:(us.map (·.1)).Nodup) {u:Str×α} (h:u∈us):(us.find? fun v=>decide (v.1=u.1))=some u:=by
 cases e:us.find? fun q=>decide (q.1=u.1) with
 |none=>exact absurd (List.find?_eq_none.mp e u h) (by simp)
 |some q=>
  have h1:q.1=u.1:=by simpa using List.find?_some e
  have h2:=List.mem_of_find?_eq_some e
  obtain ⟨i,hi⟩:=List.mem_iff_getElem?.mp h2
  obtain ⟨j,hj⟩:=List.mem_iff_getElem?.mp h
  have hij:i=j:=(List.getElem?_inj (by rw [List.length_map];exact (List.getElem?_eq_some_iff.mp hi).1) nd).mp (by rw [List.getElem?_map,List.getElem?_map,hi,hj,Option.map_some,Option.map_some,h1])
  rw [hij,hj] at hi
  rw [hi]
theorem uX {fs:zL} (nd:(fs.map (·.1)).Nodup) {p:Str×(Int×Int)} (hp:p∈fs):valD (yc fs) (.inr p.1)=some (frT p.2):=by
 rw [A6,wQ nd hp]
 rfl
theorem Ks {x:Int×Int} (h:Fq x):(x.1:Rat)=vL x*(x.2:Rat):=by
 have b:=h.b1
 have b0:(x.2:Rat)≠0:=by exact_mod_cast (by omega:x.2≠0)
 unfold vL
 grind
theorem Nt {r:Rat} {t b:Int} (e:(t:Rat)=r*(b:Rat)):r.num*b=t*(r.den:Int):=by
 have d0:((r.den:Int):Rat)≠0:=by exact_mod_cast (Int.natCast_ne_zero.mpr r.den_nz)
 have e1:r=((r.num:Int):Rat) / ((r.den:Int):Rat):=by
  have:=Rat.num_divInt_den r
  rw [Rat.divInt_eq_div] at this
  exact this.symm
 have h:((r.num*b:Int):Rat)=((t*(r.den:Int):Int):Rat):=by
  rw [Rat.intCast_mul,Rat.intCast_mul,e]
  generalize ((r.den:Int):Rat)=d at d0 e1 ⊢
  generalize ((r.num:Int):Rat)=m at e1 ⊢
  rw [e1]
  grind
 exact_mod_cast h
theorem Ld.Pu {m n:Nat} {gs:Gm} (h:Ld m gs) (l:m≤n):Ld n gs:=⟨h.nm,h.nd,h.srt,h.nz,fun g hg=>(h.zr g hg).mono l,h.len⟩
theorem wR {α:Type} (f:α→Rat):∀ as:List α,j9 (as.map fun a=>-f a) = -j9 (as.map f)
 |[]=>by
  rw [List.map_nil,List.map_nil,zK]
  decide +kernel
 |a::as=>by
  rw [List.map_cons,List.map_cons,fP,fP,wR f as]
  grind
theorem Nu {ts:List (Str×Int)} {z:Str} {w:Dt} (h:z∈ts.map (·.1)):gZ (nR ts) (.inr z) w=uf (ts.map fun t=>(t.1,if t.1=z then w else .int t.2)):=by
 unfold gZ
 rw [if_pos]
 ·unfold nR uf
  rw [List.map_map,List.map_map]
  refine List.map_congr_left fun t _=>?_
  show (if (Sum.inr t.1:Key)=.inr z then ((Sum.inr t.1:Key),w) else ((Sum.inr t.1:Key),Dt.int t.2))=((Sum.inr t.1:Key),if t.1=z then w else .int t.2)
  by_cases e:t.1=z
  ·rw [if_pos (by rw [e]),if_pos e]
  ·rw [if_neg (fun q=>e (Sum.inr.inj q)),if_neg e]
 ·obtain ⟨t,ht,rfl⟩:=eX h
  unfold nR
  rw [List.any_map,List.any_eq_true]
  exact ⟨t,ht,by simp⟩
theorem Pw (ts:List (Str×Int)):nR ts=uf (ts.map fun t=>(t.1,.int t.2)):=by
 unfold nR uf
 rw [List.map_map]
 rfl
theorem HP {us:List (Str×Dt)} {z:Str} {w:Dt} (h:∀ u∈us,u.1≠z):gZ (uf us) (.inr z) w=uf (us++[(z,w)]):=by
 rw [ya]
 ·unfold uf
  rw [List.map_append]
  rfl
 ·intro m
  unfold uf at m
  rw [List.map_map] at m
  obtain ⟨u,hu,e⟩:=eX m
  exact h u hu (Sum.inr.inj e)
def Cu (CA:Addr) (fs:zL):Tl:=fs.map fun f=>(f.1,(aQ CA (vL f.2),vL f.2))
theorem HQ:∀ fs:zL,tL (fs.map fun f=>Dt.tup [.str f.1,frT f.2])=some (yc fs)
 |[]=>rfl
 |t::ts=>by
  rw [List.map_cons]
  unfold tL
  rw [HQ ts]
  rfl
theorem Ku (CA:Addr) (fs:zL):tL (fs.map fun f=>Dt.tup [.str f.1,aQ CA (vL f.2)])=some (Cj (Cu CA fs)):=by
 have:=HJ (Cu CA fs)
 unfold Cu at this ⊢
 rw [List.map_map] at this
 exact this
theorem Px (CA:Addr) (fs:zL) (z:Str):DB (Cu CA fs) z=vL (rK fs z):=by
 unfold DB rK Cu
 rw [List.find?_map]
 have:((fun u:Str×(Dt×Rat)=>decide (u.1=z)) ∘ fun f:Str×(Int×Int)=>(f.1,(aQ CA (vL f.2),vL f.2)))=fun p:Str×(Int×Int)=>decide (p.1=z):=rfl
 rw [this]
 cases fs.find? fun p=>decide (p.1=z) with
 |none=>
  show (0:Rat)=((0:Int):Rat) / ((1:Int):Rat)
  decide +kernel
 |some p=>rfl
theorem Nv {us:List (Str×Dt)} (nd:(us.map (·.1)).Nodup) {u:Str×Dt} (h:u∈us):valD (uf us) (.inr u.1)=some u.2:=by
 rw [HM,wQ nd h]
 rfl
theorem q8 (us:List (Str×Dt)):(uf us).map (fun kv=>wA kv.1)=us.map fun u=>Dt.str u.1:=by
 unfold uf
 rw [List.map_map]
 rfl
section
variable {K:Frag} {ρ:Ev} {μ:Mu} {t:DE} {q:DQ} {w:XQ} {C CB:Addr} {Cs:List Addr} {kk:Nat} {g:List Dt→List Dt→List Dt} {ts:List (Str×Int)}
theorem Pz (h:Ve t ρ μ (.dct (nR ts))) (hC:C∈Cs) (ht:kZ ts) (k:∀ us,Dk ts us→q (zv C us []) μ) (hk:kk=0:=by rfl) (hg:∀ x y,g [x,y] []=[x,y]:=by intro _ _;rfl) :
  NO C 1 kk (A8 K Cs CB) g w (bD t fk) fk ρ μ q:=h _ ⟨rfl,hk.symm,fun x hx=>by
 rw [hg]
 exact ⟨x,_,rfl,.inl ⟨x,C,_,ts,rfl,.inl rfl,hC,aq,ht,fun us hu=>⟨rfl,_,aq,by rw [mG hx];exact k us hu⟩⟩⟩⟩
theorem Cv (h:Ve t ρ μ (.dct (nR ts))) (hC:C∈Cs) (ht:kZ ts) (hk:kk=0:=by rfl) (hg:∀ x y,g [x,y] []=[x,y]:=by intro _ _;rfl) :
  Ve (NO C 1 kk (A8 K Cs CB) g w (bD t fk) fk) ρ μ (zv C (qY ts) []):=fun q k=>Pz h hC ht (fun us hu=>by rw [zw ht.2.1 hu];exact k) hk hg
theorem Sj {ks:List Dt} (h:Ve t ρ μ (.mix ks)):Vi (Hx t) ρ μ ks:=fun q k=>h _ ⟨ks,rfl,k⟩
theorem HR {ks:List Dt} (h:Ve t ρ μ (.mix ks)):Ve (xJ (Ic K) (bD t (bD (dC (.raw (.ty "dict"))) fk))) ρ μ (.bl true):=fun q k=>h _ ⟨⟨_,_,_,_,_,rfl,.ty "dict",.mix ks,kit_ty K (by decide) (.dict []),k⟩⟩
end
end
end HS
namespace HS
open PySem PySem.Spec PyProof.Rows L2 zW
set_option hygiene false
local macro_rules | `(tactic|walk_at "bkq0")=>`(tactic|exact fun _ _ _ _ _ _ us ws hu hw=>match us,ws,hu,hw with |[_,_],[],_,_=>rfl)
local macro_rules | `(tactic|walk_at "bkq1")=>`(tactic|exact fun _ _ _ _ _ _ us ws hu hw=>match us,ws,hu,hw with |[_],[],_,_=>rfl)
local macro_rules | `(tactic|walk_at "bkq2")=>`(tactic|exact fun _ _ _ _ _ _ us ws hu hw=>match us,ws,hu,hw with |[_],[_],_,_=>rfl)
local macro_rules | `(tactic|walk_at "n1")=>`(tactic|exact fun _ _ _ _ _ _ us hl=>match us,hl with |[_],_=>rfl)
local macro_rules | `(tactic|walk_at "n3")=>`(tactic|exact fun _ _ _ _ _ _ us hl=>match us,hl with |[_,_,_],_=>rfl)
local macro_rules | `(tactic|walk_at "n2")=>`(tactic|exact fun _ _ _ _ _ _ us hl=>match us,hl with |[_,_],_=>rfl)
local macro_rules | `(tactic|walk_at "bdd0")=>`(tactic|exact fun _ _ _ _ _ _ _ us its ws hu hi hw=>match us,its,ws,hu,hi,hw with |[_,_,_],[_],[],_,_,_=>⟨_,rfl,rfl⟩)
local macro_rules | `(tactic|walk_at "bdd1")=>`(tactic|exact fun _ _ _ _ _ _ _ us its ws hu hi hw=>match us,its,ws,hu,hi,hw with |[_,_],[_],[],_,_,_=>⟨_,rfl,rfl⟩)
local macro_rules | `(tactic|walk_at "bdd2")=>`(tactic|exact fun _ _ _ _ _ _ _ us its ws hu hi hw=>match us,its,ws,hu,hi,hw with |[_,_],[_],[],_,_,_=>⟨_,rfl,rfl⟩)
local macro_rules | `(tactic|walk_at "A1")=>`(tactic|focus (refine fun vs H Q E h=>lD h fun ds μ q x h=>?_;rcases h with ⟨_,rfl,_⟩;rfl))
local macro_rules | `(tactic|walk_at "P")=>`(tactic|intro cdv A outer s H vs Q E hr h;obtain ⟨P0,ds,q,x,rfl,hS,hv,h,hq,hx⟩:=h)
local macro_rules | `(tactic|walk_at "A3")=>`(tactic|focus (refine fun vs H Q E h=>lD h fun ds μ q x h=>?_;rcases h with ⟨_,_,_,rfl,_⟩;rfl))
local macro_rules | `(tactic|walk_at "A2")=>`(tactic|focus (refine fun vs H Q E h=>lD h fun ds μ q x h=>?_;rcases h with ⟨_,_,rfl,_⟩;rfl))
local macro_rules | `(tactic|walk_at "A4")=>`(tactic|focus (refine fun vs H Q E h=>lD h fun ds μ q x h=>?_;rcases h with ⟨_,_,_,_,rfl,_⟩;rfl))
local macro_rules | `(tactic|walk_at "S")=>`(tactic|exact ⟨rfl,rfl,rfl,by decide +kernel,rfl,by decide +kernel,by decide +kernel⟩)
local macro_rules | `(tactic|walk_at "F")=>`(tactic|refine Df hS hv hq ?_)
local macro_rules | `(tactic|walk_at "C")=>`(tactic|clear hq hx hv hS)
theorem HU {K:Frag}:xG K 2 0 (fun us ws=>match us,ws with |[u0,u1],[]=>[u0,u1]|_,_=>[]) (fun us ws=>match us,ws with |[u0,u1],[]=>[u0,u1]|_,_=>[]):=fun hu hw r1 r2=>by rcases r1 with _ |⟨u0,r1⟩;(focus (simp at hu));rcases r1 with _ |⟨u1,r1⟩;(focus (simp at hu));rcases r1 with _ |⟨_,_⟩;(rotate_left;(focus (simp at hu)));rcases r2 with _ |⟨_,_⟩;(rotate_left;(focus (simp at hw)));exact (.cons u0 (.cons u1 .nil))
theorem DH {K:Frag}:xG K 1 0 (fun us ws=>match us,ws with |[u0],[]=>[u0]|_,_=>[]) (fun us ws=>match us,ws with |[u0],[]=>[u0]|_,_=>[]):=fun hu hw r1 r2=>by rcases r1 with _ |⟨u0,r1⟩;(focus (simp at hu));rcases r1 with _ |⟨_,_⟩;(rotate_left;(focus (simp at hu)));rcases r2 with _ |⟨_,_⟩;(rotate_left;(focus (simp at hw)));exact (.cons u0 .nil)
theorem HV {K:Frag}:xG K 3 0 (fun vs zs=>match vs,[V.int (1)],zs with |[u0,u1,u2],[_],[]=>[u0,u1,u2]|_,_,_=>[]) (fun us ws=>match us,ws with |[u0,u1,u2],[]=>[u0,u1,u2]|_,_=>[]):=fun hu hw r1 r2=>by rcases r1 with _ |⟨u0,r1⟩;(focus (simp at hu));rcases r1 with _ |⟨u1,r1⟩;(focus (simp at hu));rcases r1 with _ |⟨u2,r1⟩;(focus (simp at hu));rcases r1 with _ |⟨_,_⟩;(rotate_left;(focus (simp at hu)));rcases r2 with _ |⟨_,_⟩;(rotate_left;(focus (simp at hw)));exact (.cons u0 (.cons u1 (.cons u2 .nil)))
theorem PB {K:Frag}:xG K 2 0 (fun vs zs=>match vs,[V.int (1)],zs with |[u0,u1],[z0],[]=>[u0,u1,z0]|_,_,_=>[]) (fun us ws=>match us,ws with |[u0,u1],[]=>[u0,u1,.int (1)]|_,_=>[]):=fun hu hw r1 r2=>by rcases r1 with _ |⟨u0,r1⟩;(focus (simp at hu));rcases r1 with _ |⟨u1,r1⟩;(focus (simp at hu));rcases r1 with _ |⟨_,_⟩;(rotate_left;(focus (simp at hu)));rcases r2 with _ |⟨_,_⟩;(rotate_left;(focus (simp at hw)));exact (.cons u0 (.cons u1 (.cons (.int _) .nil)))
theorem Sk {K:Frag}:xG K 2 0 (fun vs zs=>match vs,[V.non],zs with |[u0,u1],[_],[]=>[u0,u1]|_,_,_=>[]) (fun us ws=>match us,ws with |[u0,u1],[]=>[u0,u1]|_,_=>[]):=fun hu hw r1 r2=>by rcases r1 with _ |⟨u0,r1⟩;(focus (simp at hu));rcases r1 with _ |⟨u1,r1⟩;(focus (simp at hu));rcases r1 with _ |⟨_,_⟩;(rotate_left;(focus (simp at hu)));rcases r2 with _ |⟨_,_⟩;(rotate_left;(focus (simp at hw)));exact (.cons u0 (.cons u1 .nil))
theorem Sl {K:Frag}:xG K 1 1 (fun us ws=>match us,ws with |[u0],[w0]=>[u0,w0]|_,_=>[]) (fun us ws=>match us,ws with |[u0],[w0]=>[u0,w0]|_,_=>[]):=fun hu hw r1 r2=>by rcases r1 with _ |⟨u0,r1⟩;(focus (simp at hu));rcases r1 with _ |⟨_,_⟩;(rotate_left;(focus (simp at hu)));rcases r2 with _ |⟨w0,r2⟩;(focus (simp at hw));rcases r2 with _ |⟨_,_⟩;(rotate_left;(focus (simp at hw)));exact (.cons u0 (.cons w0 .nil))
theorem DJ {K:Frag} {x qual:Str} {st:Stmt} {f:Addr} {fd:FuncData} {ps:List Str} (F:Fun K x qual st f fd) (h:∀ (kV doc pm:Value) (an:Option Addr) (cdv ct:Value) (us ws:List Value),us.length=2→ws.length=([]:List Str).length→bindArgs (fnOf x qual (defArgs st) (defBody st) (defScope st) .none kV doc pm an cdv ct) ⟨us,([]:List Str).zip ws⟩=pure (ps.zip ((fun us ws=>match us,ws with |[u0,u1],[]=>[u0,u1]|_,_=>[]) us ws))):Bnd K fd ps 2 [] (fun us ws=>match us,ws with |[u0,u1],[]=>[u0,u1]|_,_=>[]) (fun us ws=>match us,ws with |[u0,u1],[]=>[u0,u1]|_,_=>[]):=LY F (fun us ws=>match us,ws with |[u0,u1],[]=>[u0,u1]|_,_=>[]) (fun us ws=>match us,ws with |[u0,u1],[]=>[u0,u1]|_,_=>[]) h (fun hu hw r1 r2=>by rcases r1 with _ |⟨u0,r1⟩;(focus (simp at hu));rcases r1 with _ |⟨u1,r1⟩;(focus (simp at hu));rcases r1 with _ |⟨_,_⟩;(rotate_left;(focus (simp at hu)));rcases r2 with _ |⟨_,_⟩;(rotate_left;(focus (simp at hw)));exact (.cons u0 (.cons u1 .nil)))
theorem DK {K:Frag} {x qual:Str} {st:Stmt} {f:Addr} {fd:FuncData} {ps:List Str} (F:Fun K x qual st f fd) (h:∀ (kV doc pm:Value) (an:Option Addr) (cdv ct:Value) (us ws:List Value),us.length=1→ws.length=([]:List Str).length→bindArgs (fnOf x qual (defArgs st) (defBody st) (defScope st) .none kV doc pm an cdv ct) ⟨us,([]:List Str).zip ws⟩=pure (ps.zip ((fun us ws=>match us,ws with |[u0],[]=>[u0]|_,_=>[]) us ws))):Bnd K fd ps 1 [] (fun us ws=>match us,ws with |[u0],[]=>[u0]|_,_=>[]) (fun us ws=>match us,ws with |[u0],[]=>[u0]|_,_=>[]):=LY F (fun us ws=>match us,ws with |[u0],[]=>[u0]|_,_=>[]) (fun us ws=>match us,ws with |[u0],[]=>[u0]|_,_=>[]) h (fun hu hw r1 r2=>by rcases r1 with _ |⟨u0,r1⟩;(focus (simp at hu));rcases r1 with _ |⟨_,_⟩;(rotate_left;(focus (simp at hu)));rcases r2 with _ |⟨_,_⟩;(rotate_left;(focus (simp at hw)));exact (.cons u0 .nil))
theorem Sn {K:Frag} {x qual:Str} {st:Stmt} {f:Addr} {fd:FuncData} {ps:List Str} (F:Fun K x qual st f fd) (h:∀ (kV doc pm:Value) (an:Option Addr) (cdv ct:Value) (us ws:List Value),us.length=1→ws.length=(["gaps"]:List Str).length→bindArgs (fnOf x qual (defArgs st) (defBody st) (defScope st) .none kV doc pm an cdv ct) ⟨us,(["gaps"]:List Str).zip ws⟩=pure (ps.zip ((fun us ws=>match us,ws with |[u0],[w0]=>[u0,w0]|_,_=>[]) us ws))):Bnd K fd ps 1 ["gaps"] (fun us ws=>match us,ws with |[u0],[w0]=>[u0,w0]|_,_=>[]) (fun us ws=>match us,ws with |[u0],[w0]=>[u0,w0]|_,_=>[]):=LY F (fun us ws=>match us,ws with |[u0],[w0]=>[u0,w0]|_,_=>[]) (fun us ws=>match us,ws with |[u0],[w0]=>[u0,w0]|_,_=>[]) h (fun hu hw r1 r2=>by rcases r1 with _ |⟨u0,r1⟩;(focus (simp at hu));rcases r1 with _ |⟨_,_⟩;(rotate_left;(focus (simp at hu)));rcases r2 with _ |⟨w0,r2⟩;(focus (simp at hw));rcases r2 with _ |⟨_,_⟩;(rotate_left;(focus (simp at hw)));exact (.cons u0 (.cons w0 .nil)))
theorem HW {K:Frag} {x qual:Str} {st:Stmt} {f:Addr} {fd:FuncData} {ps:List Str} {d0:V} (F:FunD K x qual (defArgs st) (defBody st) (defScope st) [d0] [] f fd) (h:∀ (T:Addr) (kV doc pm:Value) (an:Option Addr) (cdv ct:Value) (us its ws:List Value),us.length=3→its.length=([d0]:List V).length→ws.length=([]:List Str).length→∃ k,bindArgs (fnOf x qual (defArgs st) (defBody st) (defScope st) (.ref T) kV doc pm an cdv ct) ⟨us,([]:List Str).zip ws⟩=seqItems? (.ref T) >>= k∧k (some its.toArray)=pure (ps.zip ((fun us its ws=>match us,its,ws with |[u0,u1,u2],[_],[]=>[u0,u1,u2]|_,_,_=>[]) us its ws))):∃ its:List Value,Bnd K fd ps 3 [] (fun us ws=>match us,its,ws with |[u0,u1,u2],[_],[]=>[u0,u1,u2]|_,_,_=>[]) (fun vs zs=>match vs,[d0],zs with |[u0,u1,u2],[_],[]=>[u0,u1,u2]|_,_,_=>[]):=Ma F (List.cons_ne_nil _ _) (fun us its ws=>match us,its,ws with |[u0,u1,u2],[_],[]=>[u0,u1,u2]|_,_,_=>[]) (fun us its ws=>match us,its,ws with |[u0,u1,u2],[_],[]=>[u0,u1,u2]|_,_,_=>[]) h (fun hu hd hw r1 rd r2=>by rcases r1 with _ |⟨u0,r1⟩;(focus (simp at hu));rcases r1 with _ |⟨u1,r1⟩;(focus (simp at hu));rcases r1 with _ |⟨u2,r1⟩;(focus (simp at hu));rcases r1 with _ |⟨_,_⟩;(rotate_left;(focus (simp at hu)));rcases r2 with _ |⟨_,_⟩;(rotate_left;(focus (simp at hw)));rcases rd with _ |⟨z0,rd⟩;(focus (simp at hd));rcases rd with _ |⟨_,_⟩;(rotate_left;(focus (simp at hd)));exact (.cons u0 (.cons u1 (.cons u2 .nil))))
theorem PD {K:Frag} {x qual:Str} {st:Stmt} {f:Addr} {fd:FuncData} {ps:List Str} {d0:V} (F:FunD K x qual (defArgs st) (defBody st) (defScope st) [d0] [] f fd) (h:∀ (T:Addr) (kV doc pm:Value) (an:Option Addr) (cdv ct:Value) (us its ws:List Value),us.length=2→its.length=([d0]:List V).length→ws.length=([]:List Str).length→∃ k,bindArgs (fnOf x qual (defArgs st) (defBody st) (defScope st) (.ref T) kV doc pm an cdv ct) ⟨us,([]:List Str).zip ws⟩=seqItems? (.ref T) >>= k∧k (some its.toArray)=pure (ps.zip ((fun us its ws=>match us,its,ws with |[u0,u1],[z0],[]=>[u0,u1,z0]|_,_,_=>[]) us its ws))):∃ its:List Value,Bnd K fd ps 2 [] (fun us ws=>match us,its,ws with |[u0,u1],[z0],[]=>[u0,u1,z0]|_,_,_=>[]) (fun vs zs=>match vs,[d0],zs with |[u0,u1],[z0],[]=>[u0,u1,z0]|_,_,_=>[]):=Ma F (List.cons_ne_nil _ _) (fun us its ws=>match us,its,ws with |[u0,u1],[z0],[]=>[u0,u1,z0]|_,_,_=>[]) (fun us its ws=>match us,its,ws with |[u0,u1],[z0],[]=>[u0,u1,z0]|_,_,_=>[]) h (fun hu hd hw r1 rd r2=>by rcases r1 with _ |⟨u0,r1⟩;(focus (simp at hu));rcases r1 with _ |⟨u1,r1⟩;(focus (simp at hu));rcases r1 with _ |⟨_,_⟩;(rotate_left;(focus (simp at hu)));rcases r2 with _ |⟨_,_⟩;(rotate_left;(focus (simp at hw)));rcases rd with _ |⟨z0,rd⟩;(focus (simp at hd));rcases rd with _ |⟨_,_⟩;(rotate_left;(focus (simp at hd)));exact (.cons u0 (.cons u1 (.cons z0 .nil))))
theorem So {K:Frag} {x qual:Str} {st:Stmt} {f:Addr} {fd:FuncData} {ps:List Str} {d0:V} (F:FunD K x qual (defArgs st) (defBody st) (defScope st) [d0] [] f fd) (h:∀ (T:Addr) (kV doc pm:Value) (an:Option Addr) (cdv ct:Value) (us its ws:List Value),us.length=2→its.length=([d0]:List V).length→ws.length=([]:List Str).length→∃ k,bindArgs (fnOf x qual (defArgs st) (defBody st) (defScope st) (.ref T) kV doc pm an cdv ct) ⟨us,([]:List Str).zip ws⟩=seqItems? (.ref T) >>= k∧k (some its.toArray)=pure (ps.zip ((fun us its ws=>match us,its,ws with |[u0,u1],[_],[]=>[u0,u1]|_,_,_=>[]) us its ws))):∃ its:List Value,Bnd K fd ps 2 [] (fun us ws=>match us,its,ws with |[u0,u1],[_],[]=>[u0,u1]|_,_,_=>[]) (fun vs zs=>match vs,[d0],zs with |[u0,u1],[_],[]=>[u0,u1]|_,_,_=>[]):=Ma F (List.cons_ne_nil _ _) (fun us its ws=>match us,its,ws with |[u0,u1],[_],[]=>[u0,u1]|_,_,_=>[]) (fun us its ws=>match us,its,ws with |[u0,u1],[_],[]=>[u0,u1]|_,_,_=>[]) h (fun hu hd hw r1 rd r2=>by rcases r1 with _ |⟨u0,r1⟩;(focus (simp at hu));rcases r1 with _ |⟨u1,r1⟩;(focus (simp at hu));rcases r1 with _ |⟨_,_⟩;(rotate_left;(focus (simp at hu)));rcases r2 with _ |⟨_,_⟩;(rotate_left;(focus (simp at hw)));rcases rd with _ |⟨z0,rd⟩;(focus (simp at hd));rcases rd with _ |⟨_,_⟩;(rotate_left;(focus (simp at hd)));exact (.cons u0 (.cons u1 .nil)))
local macro_rules | `(tactic|walk_at "mem")=>`(tactic|first
 |with_reducible assumption
 |exact upd_same
 |(refine tY (by with_reducible assumption) ?_;walk_at "mem")
 |(rw [upd_ne (by first |with_reducible assumption |exact Ne.symm (by with_reducible assumption))];walk_at "mem")
 |(refine Same.use (by with_reducible assumption) ?_;walk_at "mem")
 |(refine rJ.use (by with_reducible assumption) (by with_reducible assumption) ?_;walk_at "mem"))
local macro_rules | `(tactic|walk_at "sz")=>`(tactic|first
 |with_reducible assumption
 |(with_reducible apply Sz.add;(walk_at "sz");(walk_at "sz"))
 |(with_reducible apply Sz.sub;(walk_at "sz");(walk_at "sz"))
 |(with_reducible apply Sz.mul;(walk_at "sz");(walk_at "sz"))
 |exact Sz.Oj (by decide) (Sz.of_lt (n:=64) (by simp only [Nat.reducePow];omega) (by simp only [Nat.reducePow];omega))
 |exact Sz.of_lt (n:=64) (by simp only [Nat.reducePow];omega) (by simp only [Nat.reducePow];omega))
local macro_rules | `(tactic|walk_at "nz")=>`(tactic|(show (_:Int)≠0;first |decide |omega))
theorem Qy {H:Hp} {p c:Addr} {n:Nat} {m:Int} {Q:Int→Hp→Prop} (hP:ur n c H p) (hn:n≤1000000000) (h0:0<m) (hm:Sz 4000 m) (k:∀ (r:Int) (H':Hp),0≤r→r<m→ur (n+1) c H' p→rJ p H H'→Q r H') :
  ∃ (p' c':Addr) (m':Int) (n':Nat),[V.ref p,V.int m]=[.ref p',.int m']∧ur n' c' H p'∧n'≤1000000000∧0<m'∧Sz 4000 m'∧∀ (r:Int) (H':Hp),0≤r→r<m'→ur (n'+1) c' H' p'→rJ p' H H'→Q r H':=
 ⟨p,c,m,n,rfl,hP,hn,h0,hm,k⟩
theorem NU {K:Frag} {H:Hp} {p c q:Addr} {n:Nat} {Q:VK} (ns:List Int) (hP:ur n c H p) (hn:n≤1000000000) (hq:H q=none) (h0:0<ns.length) (h1:ns.length≤1000000) (k:∀ m∈ns,∀ H',ur (n+1) c H' p→rJ p H H'→Q (.int m) H') :
  ∃ (p' c':Addr) (x:V) (xs:List V) (n':Nat),[V.ref p,V.ref q]=[.ref p',x]∧ur n' c' (upd H q (.lst (ns.map V.int))) p'∧n'≤1000000000∧Pk K (Hd p' (upd H q (.lst (ns.map V.int)))) x xs∧0<xs.length∧xs.length≤1000000∧
   ∀ v∈xs,∀ H',ur (n'+1) c' H' p'→rJ p' (upd H q (.lst (ns.map V.int))) H'→Q v H':=
 ⟨p,c,.ref q,ns.map V.int,n,rfl,hP.same (j3 hq),hn,.inl ⟨q,rfl,.inl (SqL.of (Hd.of (hP.ne hq) upd_same))⟩,by simpa using h0,by simpa using h1,fun v hv H' MH B=>by
  obtain ⟨m,hm,rfl⟩:=eX hv
  exact k m hm H' MH ((rJ.of (j3 hq)).trans B)⟩
local macro_rules | `(tactic|walk_at "go")=>`(tactic|repeat (first
 |refine ⟨rfl,?_⟩
 |refine ⟨_,rfl,?_⟩
 |refine ⟨_,_,rfl,rfl,?_⟩
 |refine ⟨_,_,rfl,rfl,by assumption,?_⟩
 |refine ⟨_,_,rfl,?_⟩
 |refine ⟨by assumption,?_⟩
 |refine ⟨Nat.le_of_ble_eq_true rfl,?_⟩))
local macro_rules | `(tactic|walk_at "vi")=>`(tactic|first
 |with_reducible exact aF
 |((with_reducible apply ak);rfl)
 |((with_reducible apply wm);walk_at "vi";walk_at "vi")
 |((with_reducible apply Qz);walk_at "vn";walk_at "vn";(first |assumption |(intro z;grind));exact Nat.le_of_ble_eq_true rfl;exact Nat.le_of_ble_eq_true rfl)
 |((with_reducible apply PF);walk_at "vn";walk_at "vn";(first |assumption |(intro z;grind));exact Nat.le_of_ble_eq_true rfl;exact Nat.le_of_ble_eq_true rfl)
 |((with_reducible apply GF);walk_at "vn")
 |((with_reducible apply wu);walk_at "vn")
 |((with_reducible apply NV);walk_at "vb";walk_at "vb";walk_at "vb"))
local macro_rules | `(tactic|walk_at "vz")=>`(tactic|first
 |with_reducible exact aF
 |((with_reducible apply Sq);walk_at "vn";exact Nat.le_of_ble_eq_true rfl))
local macro_rules | `(tactic|walk_at "vs")=>`(tactic|first
 |with_reducible exact QA
 |((with_reducible apply PL);walk_at "vn";walk_at "vs"))
local macro_rules | `(tactic|walk_at "vn")=>`(tactic|first
 |((with_reducible apply uK);rfl;assumption)
 |with_reducible exact V4
 |with_reducible exact V5
 |((with_reducible apply BW);rfl;assumption)
 |((with_reducible apply Ss);walk_at "vn";walk_at "vn";exact Nat.le_of_ble_eq_true rfl;exact Nat.le_of_ble_eq_true rfl)
 |((with_reducible apply Su);walk_at "vn";walk_at "vn";exact Nat.le_of_ble_eq_true rfl;exact Nat.le_of_ble_eq_true rfl)
 |((with_reducible apply Gz);walk_at "vn";walk_at "vn";exact Nat.le_of_ble_eq_true rfl;exact Nat.le_of_ble_eq_true rfl)
 |((with_reducible apply QB);walk_at "vn";walk_at "vn";exact Nat.le_of_ble_eq_true rfl;exact Nat.le_of_ble_eq_true rfl)
 |((with_reducible apply QC);walk_at "vn";walk_at "vn";exact Nat.le_of_ble_eq_true rfl;exact Nat.le_of_ble_eq_true rfl)
 |((with_reducible apply QD);walk_at "vn";walk_at "vn";exact Nat.le_of_ble_eq_true rfl;exact Nat.le_of_ble_eq_true rfl)
 |((with_reducible apply GA);walk_at "vn";exact Nat.le_of_ble_eq_true rfl)
 |((with_reducible apply Sv);walk_at "vn";exact Nat.le_of_ble_eq_true rfl)
 |((with_reducible apply QE);walk_at "vn";walk_at "vn";(first |assumption |(intro z;grind));exact Nat.le_of_ble_eq_true rfl;exact Nat.le_of_ble_eq_true rfl;rfl;(intro _ _;rfl))
 |((with_reducible apply QF);walk_at "vn";walk_at "vn";(first |assumption |(intro z;grind));exact Nat.le_of_ble_eq_true rfl;exact Nat.le_of_ble_eq_true rfl;exact Nat.le_of_ble_eq_true rfl)
 |((with_reducible apply Sw);walk_at "vn";walk_at "vn";(first |assumption |(intro z;grind));exact Nat.le_of_ble_eq_true rfl;exact Nat.le_of_ble_eq_true rfl;exact Nat.le_of_ble_eq_true rfl)
 |((with_reducible apply QG);walk_at "vn";walk_at "vn";(first |assumption |(intro z;grind));exact Nat.le_of_ble_eq_true rfl;exact Nat.le_of_ble_eq_true rfl;exact Nat.le_of_ble_eq_true rfl)
 |((with_reducible apply QH);walk_at "vs";exact Nat.le_of_ble_eq_true rfl;rfl;(intro _;rfl))
 |((with_reducible apply QI);walk_at "vs";exact Nat.le_of_ble_eq_true rfl;rfl;(intro _;rfl))
 |((with_reducible apply GG);walk_at "vi";rfl;(first |assumption |exact z1 |exact z0);rfl;(intro _ _;rfl))
 |((with_reducible apply K5);walk_at "vi";walk_at "vi";assumption;assumption;assumption;assumption;rfl;(intro _ _ _;rfl))
 |((with_reducible apply Uj);walk_at "vn";exact Nat.le_of_ble_eq_true rfl;rfl;(intro _;rfl))
 |((with_reducible apply Sy);walk_at "vi";assumption))
local macro_rules | `(tactic|walk_at "vb")=>`(tactic|first
 |((with_reducible apply SA);walk_at "vn";walk_at "vn";exact Nat.le_of_ble_eq_true rfl;exact Nat.le_of_ble_eq_true rfl)
 |((with_reducible apply QJ);walk_at "vn";walk_at "vn";exact Nat.le_of_ble_eq_true rfl;exact Nat.le_of_ble_eq_true rfl)
 |((with_reducible apply GB);walk_at "vn";walk_at "vn")
 |((with_reducible apply GD);walk_at "vn";walk_at "vn")
 |((with_reducible apply SD);walk_at "vn";walk_at "vn")
 |((with_reducible apply SE);walk_at "vn";walk_at "vn")
 |((with_reducible apply QK);walk_at "vb")
 |((with_reducible apply SG);walk_at "vb";walk_at "vb")
 |((with_reducible apply SH);walk_at "vb";walk_at "vb")
 |((with_reducible apply QL);walk_at "vn")
 |((with_reducible apply Ny);walk_at "vn")
 |((with_reducible apply Uk);walk_at "vn";walk_at "vn";walk_at "vn";exact Nat.le_of_ble_eq_true rfl;exact Nat.le_of_ble_eq_true rfl;exact Nat.le_of_ble_eq_true rfl)
 |((with_reducible apply Ul);walk_at "vn";walk_at "vn";walk_at "vn";exact Nat.le_of_ble_eq_true rfl;exact Nat.le_of_ble_eq_true rfl;exact Nat.le_of_ble_eq_true rfl)
 |((with_reducible apply Um);walk_at "vn";walk_at "vn";walk_at "vn";exact Nat.le_of_ble_eq_true rfl;exact Nat.le_of_ble_eq_true rfl;exact Nat.le_of_ble_eq_true rfl)
 |((with_reducible apply SI);walk_at "vb";(intro _;walk_at "vb"))
 |((with_reducible apply Uo);walk_at "vb";(intro _;walk_at "vb"))
 |((with_reducible apply SJ);walk_at "vi";walk_at "vi")
 |((with_reducible apply Gr);walk_at "vi";walk_at "vi")
 |((with_reducible apply wm);walk_at "vi";walk_at "vi")
 |((with_reducible apply SM);walk_at "vz";walk_at "vz")
 |((with_reducible apply uI);walk_at "vz";walk_at "vz")
 |((with_reducible apply SN);walk_at "vi";rfl;decide))
local macro_rules | `(tactic|walk_at "vt")=>`(tactic|first
 |((with_reducible apply fK);walk_at "vb")
 |((with_reducible apply dW);walk_at "vt")
 |((with_reducible apply BR);walk_at "vt";(intro _;walk_at "vt"))
 |((with_reducible apply SO);walk_at "vt";(intro _;walk_at "vt")))
local macro_rules | `(tactic|walk_at "orF")=>`(tactic|repeat' (with_reducible refine AN ?_ ?_))
local macro_rules | `(tactic|walk_at "leaf")=>`(tactic|(apply aY;walk_at "vt"))
local macro_rules | `(tactic|walk_at "len")=>`(tactic|first |assumption |(show _≤sizeLine;exact Nat.le_of_ble_eq_true rfl)|(simp only [List.length_cons,List.length_nil];exact Nat.le_of_ble_eq_true rfl))
local macro_rules | `(tactic|walk_at "es")=>`(tactic|first
 |with_reducible exact aA
 |((with_reducible apply aj);walk_at "e";walk_at "es"))
local macro_rules | `(tactic|walk_at "e")=>`(tactic|first
 |with_reducible exact aF
 |assumption
 |((with_reducible apply ak);rfl)
 |((with_reducible apply sd);walk_at "e")
 |((with_reducible apply wm);walk_at "e";walk_at "e")
 |((with_reducible apply SQ);walk_at "e";walk_at "e";exact ⟨by decide,4,by unfold Sz;decide,by decide⟩)
 |with_reducible exact t9
 |((with_reducible apply eS);walk_at "es";walk_at "len")
 |((with_reducible apply j8);walk_at "es";walk_at "len")
 |((with_reducible apply SR);walk_at "e";walk_at "e";walk_at "len"))
local macro_rules | `(tactic|walk_at "lit")=>`(tactic|((with_reducible apply dN);walk_at "e";rfl))
def kg (D:Ad):List Addr:=[D.ff]
structure Uq (K:Frag) (mg:Str→Option Value) (D:Ad):Prop where
 mQ:Fun K "_law_pen" "_law_pen" qc D.jO D.lX
 di:Fun K "is_name" "is_name" o4 D.o5 D.rO
 fC:Fun K "is_whole" "is_whole" qd D.jP D.qf
 jA:Fun K "is_between" "is_between" lQ D.jr D.lY
 jF:Fun K "is_part" "is_part" rN D.o6 D.rP
 eL:Fun K "__init__" "Linear.__init__" bA D.iL D.kT
 bY:Fun K "_law_draw" "_law_draw" nS D.gB D.iT
 aG:Fun K "_law_pick" "_law_pick" nU D.iU D.kG
 dj:Fun K "_law_accounts" "_law_accounts" gi D.gm D.i8
 bF:Fun K "_law_heard" "_law_heard" lS D.jt D.lZ
 dO:Fun K "_law_refused_right" "_law_refused_right" dF D.dH D.eY
 b8:Fun K "is_number" "Amount.is_number" gw D.ez D.gx
 cU:Fun K "halves_of" "halves_of" nV D.kH D.nY
 kO:Fun K "__eq__" "Amount.__eq__" nW D.iV D.nZ
 fQ:Fun K "common_divisor" "common_divisor" iy D.fF D.iA
 cg:FunD K "__init__" "Amount.__init__" (defArgs f6) (defBody f6) (defScope f6) [.int (1)] [] D.iM D.kU
 mR:Fun K "__neg__" "Amount.__neg__" lU D.gJ D.l6
 k8:Fun K "__bool__" "Amount.__bool__" kR D.f7 D.kW
 oN:Fun K "of" "Amount.of" nX D.kI D.oh
 dw:Fun K "keys_in_order" "keys_in_order" eG D.gn D.i9
 g8:Fun K "nonzero_gaps" "nonzero_gaps" jI D.gM D.jQ
 oO:FunD K "__init__" "Gaps.__init__" (defArgs iS) (defBody iS) (defScope iS) [.non] [] D.kJ D.oj
 mS:Fun K "__neg__" "Linear.__neg__" jq D.gQ D.l7
 mU:Fun K "__mul__" "Amount.__mul__" lV D.ju D.l8
 mV:Fun K "__add__" "Amount.__add__" lW D.jv D.l9
 kh:Fun K "total" "Amount.total" jJ D.gR D.jR
 ki:Fun K "__getitem__" "Gaps.__getitem__" jK D.dZ D.jS
 eH:Fun K "sum_of" "Linear.sum_of" gj D.gq D.jc
 dD:Fun K "_law_fraction" "_law_fraction" i7 D.gr D.jd
 mW:Fun K "_law_sum" "_law_sum" qe D.mh D.qh
 eW:Fun K "_law_sums_right" "_law_sums_right" cH D.eT D.gS
 HX:Fun K "law" "law" Ef D.yx D.Bm
 iI:Fun K "__init__" "BadAmount.__init__" iz D.d7 D.iB
 kj:Fun K "__init__" "BadGaps.__init__" jL D.eZ D.jT
 ko:Fun K "__init__" "BadItem.__init__" jM D.e9 D.jU
 kq:Fun K "__init__" "BadName.__init__" jN D.fc D.jV
 uY:mg "_law_pen" = some (.ref D.jO)
 jG:mg "is_name" = some (.ref D.o5)
 Ba:mg "is_whole" = some (.ref D.jP)
 q9:mg "is_between" = some (.ref D.jr)
 sq:mg "is_part" = some (.ref D.o6)
 gH:mg "_law_draw" = some (.ref D.gB)
 cE:mg "_law_pick" = some (.ref D.iU)
 ji:mg "_law_accounts" = some (.ref D.gm)
 fR:mg "_law_heard" = some (.ref D.jt)
 iZ:mg "_law_refused_right" = some (.ref D.dH)
 i6:mg "halves_of" = some (.ref D.kH)
 lF:mg "common_divisor" = some (.ref D.fF)
 jj:mg "keys_in_order" = some (.ref D.gn)
 oQ:mg "nonzero_gaps" = some (.ref D.gM)
structure Ur (K:Frag) (mg:Str→Option Value) (D:Ad):Prop where
 jk:mg "_law_fraction" = some (.ref D.gr)
 uZ:mg "_law_sum" = some (.ref D.mh)
 kP:mg "_law_sums_right" = some (.ref D.eT)
 Le:mg "law" = some (.ref D.yx)
 zO:mg "abs" = none
 Cw:mg "all" = none
 Bb:mg "bool" = none
 mX:mg "dict" = none
 lG:mg "int" = none
 bG:mg "isinstance" = none
 wU:mg "len" = none
 ye:mg "list" = none
 yf:mg "range" = none
 u5:mg "sorted" = none
 u6:mg "str" = none
 wV:∃ u,mg "LETTERS" = some u∧RelV (.str "abcdefghijklmnopqrstuvwxyz") u
 wW:∃ u,mg "LONGEST" = some u∧RelV (.int (8)) u
 sS:mg "BadAmount" = some (.ref D.cQ)
 zP:IA K D.cQ
 wX:mg "BadGaps" = some (.ref D.gE)
 DL:IA K D.gE
 sr:mg "BadItem" = some (.ref D.d8)
 wY:IA K D.d8
 wZ:mg "BadName" = some (.ref D.gF)
 DM:IA K D.gF
 sU:mg "NoDivisor" = some (.ref D.eo)
 zQ:IA K D.eo
 ri:mg "ShiftError" = some (.ref D.jw)
 yg:IA K D.jw
 cF:mg "Amount" = some (.ref D.ao)
 aM:pB K D.ao
 HY:mg "Gaps" = some (.ref D.je)
 yh:pB K D.je
 oR:mg "Linear" = some (.ref D.ff)
 jH:pB K D.ff
 fS:mg "is_whole_names" = some (.ref D.jP)
 oS:∃ u,Con K D.ff "MOST" (.int (9)) u
 rj:PySem.W.excIn K D.eo [.type "ValueError",.type "Exception",.type "BaseException",.type "object"] "ValueError.__new__" = true
 rm:keepIn K (.ref D.eo)=true
 rq:subIn K (.ref D.eo) (.type "BaseException")=some true
 rA:typeIn K (.ref D.eo)=some (.type "type")
 Cy:PySem.W.fnIn K D.dZ=true
 fT:Meth K D.ff "sum_of" D.gq
 gI:Mk K D.ao D.iM
 Cz:Mk K D.je D.kJ
 lH:Mk K D.ff D.iL
 w9:findIn K (.ref D.ao) "__ne__" = some (some (.builtin "object.__ne__"))
 bw:NoAttr K D.ao "bottom"
 cu:NoAttr K D.ao "top"
 kr:NoAttr K D.je "gap_of"
structure Us (K:Frag) (mg:Str→Option Value) (D:Ad):Prop where
 jo:NoAttr K D.ff "own_parts"
 pP:PySem.W.NJ K D.ao D.jv "add"
 pQ:∃ rc,findIn K (.ref D.ao) (dunderR "add")=some rc∧(rc=none∨∃ g:Addr,rc=some (.ref g))
 pR:PySem.W.NJ K D.ao D.ju "mul"
 pU:∃ rc,findIn K (.ref D.ao) (dunderR "mul")=some rc∧(rc=none∨∃ g:Addr,rc=some (.ref g))
 iJ:ClX.CRead K D.ao (.type "type")
 cP:Fp K D.ao (.type "type") "is_number" D.jW D.ez
 rB:Fp K D.ao (.type "type") "of" D.sE D.kI
 nE:Fp K D.ao (.type "type") "total" D.om D.gR
 oU:findIn K (.ref D.ao) "__bool__" = some (some (.ref D.f7))
 oV:isFn K (.ref D.f7)=true
 mY:findIn K (.ref D.ao) "__eq__" = some (some (.ref D.iV))
 mZ:isFn K (.ref D.iV)=true
 pV:findIn K (.ref D.ao) "__neg__" = some (some (.ref D.gJ))
 pW:isFn K (.ref D.gJ)=true
 nH:findIn K (.ref D.je) "__getitem__" = some (some (.ref D.dZ))
 nI:isFn K (.ref D.dZ)=true
 pX:findIn K (.ref D.ff) "__neg__" = some (some (.ref D.gQ))
 pY:isFn K (.ref D.gQ)=true
 oW:OexC K D.cQ
 yi:XfC K D.cQ
 sV:findIn K (.ref D.cQ) "__init__" = some (some (.ref D.d7))
 sW:typeIn K (.ref D.d7)=some (.type "function")
 kB:findIn K (.ref D.cQ) "value" = some none
 su:OexC K D.gE
 Bc:XfC K D.gE
 xg:findIn K (.ref D.gE) "__init__" = some (some (.ref D.eZ))
 xh:typeIn K (.ref D.eZ)=some (.type "function")
 lI:findIn K (.ref D.gE) "value" = some none
 sC:OexC K D.d8
 u7:XfC K D.d8
 xj:findIn K (.ref D.d8) "__init__" = some (some (.ref D.e9))
 xm:typeIn K (.ref D.e9)=some (.type "function")
 jl:findIn K (.ref D.d8) "part" = some none
 sD:OexC K D.gF
 Be:XfC K D.gF
 xo:findIn K (.ref D.gF) "__init__" = some (some (.ref D.fc))
 xq:typeIn K (.ref D.fc)=some (.type "function")
 lJ:findIn K (.ref D.gF) "value" = some none
 u9:kitOne K (.ref D.je) (.ref D.ao)=some false
 vc:kitOne K (.ref D.ao) (.ref D.je)=some false
 vf:PySem.W.exmOne K (.ref D.d8) (.ref D.jw)=some true
structure Txt (K:Frag) (mg:Str→Option Value) (D:Ad):Prop extends Uq K mg D,Ur K mg D,Us K mg D
section
variable {K:Frag} {mg:Str→Option Value} {D:Ad}
theorem rC (T:Txt K mg D):∀ C,C∈kg D→pB K C:=fun C h=>by
 simp only [kg,List.mem_cons,List.not_mem_nil,or_false] at h
 rcases h with rfl
 ·exact T.jH
theorem rD (T:Txt K mg D):∀ C,C∈kg D→∃ u,Con K C "MOST" (.int (9)) u:=fun C h=>by
 simp only [kg,List.mem_cons,List.not_mem_nil,or_false] at h
 rcases h with rfl
 ·exact T.oS
theorem g9 (T:Txt K mg D):∀ C,C∈kg D→NoAttr K C "own_parts" := fun C h=>by
 simp only [kg,List.mem_cons,List.not_mem_nil,or_false] at h
 rcases h with rfl
 ·exact T.jo
end
section
variable {P:Program} {w:World} {K:Frag} {mg:Str→Option Value} {base:Heap} {D:Ad}
theorem rE:FnScope ["self", "value"] ["self", "value"] (defScope iz):=by walk_at "S"
theorem m5 (T:Txt K mg D):Oh P w K mg base "BadAmount" "value" D.cQ D.d7 D.iB:=
 ⟨T.oW,T.sV,T.sW,T.sS,Br T.iI rE rfl T.oW T.kB (by decide) (by decide) (fun _=>rfl),
  T.iI.binds (ps:=["self", "value"]) fun _ _ _ _ _ _ us hl=>match us,hl with |[_,_],_=>rfl⟩
theorem tM:FnScope ["self", "value"] ["self", "value"] (defScope jL):=by walk_at "S"
theorem Bf (T:Txt K mg D):Oh P w K mg base "BadGaps" "value" D.gE D.eZ D.jT:=
 ⟨T.su,T.xg,T.xh,T.wX,Br T.kj tM rfl T.su T.lI (by decide) (by decide) (fun _=>rfl),
  T.kj.binds (ps:=["self", "value"]) fun _ _ _ _ _ _ us hl=>match us,hl with |[_,_],_=>rfl⟩
theorem tN:FnScope ["self", "part"] ["self", "part"] (defScope jM):=by walk_at "S"
theorem qy (T:Txt K mg D):Oh P w K mg base "BadItem" "part" D.d8 D.e9 D.jU:=
 ⟨T.sC,T.xj,T.xm,T.sr,Br T.ko tN rfl T.sC T.jl (by decide) (by decide) (fun _=>rfl),
  T.ko.binds (ps:=["self", "part"]) fun _ _ _ _ _ _ us hl=>match us,hl with |[_,_],_=>rfl⟩
theorem tO:FnScope ["self", "value"] ["self", "value"] (defScope jN):=by walk_at "S"
theorem vg (T:Txt K mg D):Oh P w K mg base "BadName" "value" D.gF D.fc D.jV:=
 ⟨T.sD,T.xo,T.xq,T.wZ,Br T.kq tO rfl T.sD T.lJ (by decide) (by decide) (fun _=>rfl),
  T.kq.binds (ps:=["self", "value"]) fun _ _ _ _ _ _ us hl=>match us,hl with |[_,_],_=>rfl⟩
theorem zR:FnScope ["_law_script"] ["_law_script"] (defScope qc):=by walk_at "S"
theorem yj (T:Txt K mg D):gG P w K mg base 2 D.jO D.lX ["_law_script"] (KL K):=by
 refine Fun.pA T.mQ zR (fun vs H Q E h=>?_) (fun cdv A outer s H vs Q E hr h=>?_)
 ·obtain ⟨a,ns,rfl,hs,hl,hz,k⟩:=h
  rfl
 ·obtain ⟨a,ns,rfl,hs,hl,hz,k⟩:=h
  refine ⟨_,(pss_one (ps_ret (cI (pa_cons (pe_callTy call_list_of (by rfl) T.ye (by decide +kernel) (pa_cons (pe_slice sl_list (pv 0) po_none (po_some pe_int)) pa_nil)) (pa_cons pe_int (pa_cons pe_int pa_nil)))))),?_⟩
  have e:cutV (ns.map V.int) none (some 63)=ns.map V.int:=by
   have e1:HT.sIx ns.length ns.length (some 63)=ns.length:=by
    show (if (63:Int)<0 then ((63:Int)+(ns.length:Nat)).toNat else min (63:Int).toNat ns.length)=_
    rw [if_neg (by decide)]
    exact Nat.min_eq_right hl
   unfold cutV
   rw [List.length_map,e1,HT.sIx_none]
   simpa using List.take_of_length_le (by simp)
  refine ⟨_,rfl,_,rfl,_,_,rfl,hs,fun q hq=>⟨q,_,rfl,.inl (SqL.of upd_same),fun l hl2=>⟨by show 3≤sizeLine;decide,fun p hp _=>?_⟩⟩⟩
  obtain ⟨n1,hp1⟩:=oA hp
  obtain ⟨n2,hp2⟩:=oA hp1
  refine k p l _ hp2 (oA hl2).2 ⟨ns,0,0,upd_same,?_,fun z=>n1 z.symm,by decide,by decide,by decide,Sz.mono (m:=64) (by walk_at "sz") (by decide),hz,hl⟩ (((j3 hq).trans (j3 hl2)).trans (j3 hp))
  rw [upd_ne (fun z=>n1 z.symm),upd_same,e]
theorem zS (T:Txt K mg D) (_:pe K mg base):gG P w K mg base 2 D.jO D.lX ["_law_script"] (aV K OZ):=(yj T).imp fun _ _ _ _ h=>Gh h
theorem qz:FnScope ["value", "letter"] ["value"] (defScope o4):=by walk_at "S"
theorem kE (T:Txt K mg D) (TB:pe K mg base):gG P w K mg base 2 D.o5 D.rO ["value"] (aV K (Na K)):=by
 refine Fun.pA T.di qz ?_ ?_
 walk_at "A1"
 walk_at "P"
 refine ⟨_,(pss_cons (ps_if (PW.pt (pw_or (pt_not (pt_val (pe_callB iO (by rfl) T.bG (by decide +kernel) (pa_cons (pv 0) (pa_cons (pe_bltn (v:=.ty "str") (by rfl) T.u6 (by decide +kernel) rfl) pa_nil))))) (pw_or1 (pt_not (pt_chain op_le op_le pe_int (pe_callB call_len (by rfl) T.wU (by decide +kernel) (pa_cons (pv 0) pa_nil)) (yO T.wW)))))) (pss_one (ps_ret pe_bl)) pss_nil)
  (pss_one (ps_ret (pe_callB (cr_all rfl) (by rfl) T.Cw (by decide +kernel) (pa_cons (gT (own:=[("letter",1)]) (g:=(gName 1)) (tt:=tYes) rfl qz.nd (pi_str (pv 0)) (blkOk_by (own:=[("letter",1)]) (N:=["value", "letter"]) (sc:=defScope o4) (by decide +kernel)) (fun _ _ _ _ _=>(pg_name (i:=1) qz.nd rfl (Or.inl rfl))) (fun _ _ _ _ _=>pts_nil) (fun _ _ _ _ _=>(pe_cmpR op_in_sign (pv 1) (yO T.wV) rfl))) pa_nil))))),?_⟩
 walk_at "F"
 refine ⟨_,(az (cJ (BF (fu (fW (cM cZ (af ah (af j7 ai))))) (fu (gY (ze qN qN av (cM sM (af ah ai)) av)))) (aU j6) bE)
  (aU (cM AI (af (jn (Js ah) (bM (by decide)) gy (bN vE ah aS)) ai)))),?_⟩
 walk_at "C"
 obtain ⟨v,rfl,hv,hz,k⟩:=h
 by_cases hs:∃ z,v=.str z
 ·obtain ⟨z,rfl⟩:=hs
  have hS:z.length≤sizeLine:=hz z rfl
  have hl:=len_tl z
  refine O4 (b:=!(decide ((1:Int)≤z.length)&&decide ((z.length:Int)≤8))) ?_ ?_ ?_
  ·exact aY (BR (dW (fK (uP (by decide) (ak rfl) hv))) fun _=>dW (fK (wz aF (JI (ak rfl) hS) aF))) (by simp [isT,Qt])
  ·intro hb
   refine jf aF ?_
   have e:bO (.str z)=false:=by
    unfold bO
    simp at hb
    simp
    omega
   rw [e] at k
   exact k
  ·intro hb
   refine jf (dN (GH (ak rfl) hS (by show 1<2;decide) (fun x=>by rfl)) ?_) k
   unfold bO
   simp at hb
   simp
   intro _
   omega
 ·have e2:bO v=false:=by
   cases v with
   |str z=>exact (hs ⟨z,rfl⟩).elim
   |_=>rfl
  rw [e2] at k
  refine uL (aY (BR (b:=true) (dW (fK (uP (by decide) (ak rfl) hv))) fun z=>?_) (by simp [BY hv hs])) (jf aF k)
  rw [BY hv hs] at z
  cases z
theorem zT:FnScope ["value"] ["value"] (defScope qd):=by walk_at "S"
theorem oX (T:Txt K mg D) (TB:pe K mg base):gG P w K mg base 2 D.jP D.qf ["value"] (aV K (JE K)):=by
 refine Fun.pA T.fC zT ?_ ?_
 walk_at "A1"
 walk_at "P"
 refine ⟨_,(pss_one (ps_ret (pe_and (pe_callB iO (by rfl) T.bG (by decide +kernel) (pa_cons (pv 0) (pa_cons (pe_bltn (v:=.ty "int") (by rfl) T.lG (by decide +kernel) rfl) pa_nil))) (pe_one (pe_not (pe_callB iO (by rfl) T.bG (by decide +kernel) (pa_cons (pv 0) (pa_cons (pe_bltn (v:=.ty "bool") (by rfl) T.Bb (by decide +kernel) rfl) pa_nil)))))))),?_⟩
 walk_at "F"
 refine ⟨_,(aU (xE (cM cZ (af ah (af j7 ai))) (Je (cM cZ (af ah (af j7 ai)))))),?_⟩
 walk_at "C"
 obtain ⟨v,rfl,hv,k⟩:=h
 refine ⟨_,rfl,BP (by decide) hv ⟨_,rfl,?_⟩⟩
 cases hv with
 |int i=>exact iteT ⟨_,rfl,BP (by decide) (.int i) ⟨_,rfl,k⟩⟩
 |bl b=>exact iteT ⟨_,rfl,BP (by decide) (.bl b) ⟨_,rfl,k⟩⟩
 |own o h=>
  have e1:isT "int" v=false:=by unfold isT;rw [AL h];rfl
  have e2:jh v=false:=by
   obtain ⟨fs,e⟩:=h
   cases v with
   |int i=>cases e
   |_=>rfl
  rw [e1]
  rw [e2] at k
  exact iteF k
 |_=>exact iteF k
theorem vM:FnScope ["value", "low", "high"] ["value", "low", "high"] (defScope lQ):=by walk_at "S"
theorem vN (T:Txt K mg D) (TB:pe K mg base):gG P w K mg base 3 D.jr D.lY ["value", "low", "high"] (aV K (M9 K)):=by
 refine Fun.pA T.jA vM ?_ ?_
 walk_at "A3"
 walk_at "P"
 refine ⟨_,(pss_one (ps_ret (pe_and (cY (oX (P:=P) (w:=w) T TB :) (hr.mono (by decide)) ay T.fS T.fC.kp (T.fC.binds (ps:=["value"]) (by walk_at "n1")) .nil (pa_cons (pv 0) pa_nil)) (pe_one (pe_chain op_le op_le (pv 1) (pv 0) (pv 2)))))),?_⟩
 walk_at "F"
 refine ⟨_,(aU (xE (dg aB (fun _=>.nil) (af ah ai)) (ze qN qN ah ah ah))),?_⟩
 walk_at "C"
 obtain ⟨v,lo,hi,rfl,hv,k⟩:=h
 refine ⟨_,rfl,v,rfl,hv,_,rfl,?_⟩
 cases v with
 |int i=>exact iteT (wz (ak rfl) (ak rfl) (ak rfl) _ k)
 |_=>exact iteF k
theorem Bg:FnScope ["value", "most"] ["value", "most"] (defScope rN):=by walk_at "S"
theorem vh (T:Txt K mg D) (TB:pe K mg base):gG P w K mg base 4 D.o6 D.rP ["value", "most"] (aV K (Nb K)):=by
 refine Fun.pA T.jF Bg ?_ ?_
 walk_at "A2"
 walk_at "P"
 refine ⟨_,(pss_one (ps_ret (pe_and (cY (vN (P:=P) (w:=w) T TB :) (hr.mono (by decide)) ay T.q9 T.jA.kp (T.jA.binds (ps:=["value", "low", "high"]) (by walk_at "n3")) .nil (pa_cons (pv 0) (pa_cons (pe_op op_sub pe_int (pv 1)) (pa_cons (pv 1) pa_nil)))) (pe_one (pe_cmpR qo (pv 0) pe_int (nomark _)))))),?_⟩
 walk_at "F"
 refine ⟨_,(aU (xE (dg aB (fun _=>.nil) (af ah (af (bN rW av ah) (af ah ai)))) (bN iE ah av))),?_⟩
 walk_at "C"
 obtain ⟨v,m,rfl,hv,k⟩:=h
 refine ⟨_,rfl,_,rfl,0,m,rfl,rfl,_,rfl,v,0 - m,m,rfl,hv,?_⟩
 refine ⟨_,rfl,?_⟩
 cases v with
 |int i=>
  cases hb:JU (.int i) (0 - m) m with
  |false=>
   have e:fB (.int i) m=false:=by simp only [fB];simp only [JU] at hb;rw [hb];rfl
   rw [e] at k
   exact iteF k
  |true=>
   have e:fB (.int i) m=!decide (i=0):=by simp only [fB];simp only [JU] at hb;rw [hb];simp
   rw [e] at k
   exact iteT ⟨_,rfl,⟨_,rfl,k⟩⟩
 |_=>exact iteF k
theorem aE:FnScope ["self", "parts", "account"] ["self", "parts"] (defScope bA):=by walk_at "S"
theorem ie (T:Txt K mg D) (TB:pe K mg base):gG P w K mg base 5 D.iL D.kT ["self", "parts"] (aV K (A8 K (kg D) D.d8)):=by
 refine Fun.pA T.eL aE ?_ ?_
 walk_at "A2"
 walk_at "P"
 have hW:=eU hx
 refine ⟨_,(pss_cons (ps_if (pt_not (pt_val (pe_callB iO (by rfl) T.bG (by decide +kernel) (pa_cons (pv 1) (pa_cons (pe_bltn (v:=.ty "dict") (by rfl) T.mX (by decide +kernel) rfl) pa_nil))))) (pss_one (ps_raise rfl (takes_of (E:=E) rfl rfl rfl rfl) (mq (f := "part") (qy (P:=P) (w:=w) T :) hr (by decide) rfl (pa_cons pe_str pa_nil)))) pss_nil)
  (pss_cons (ps_if (pt_not (pt_val (pe_callB (cr_all rfl) (by rfl) T.Cw (by decide +kernel) (pa_cons (xU (xU (gT (own:=[("account",2)]) (g:=(gName 2)) (tt:=tYes) rfl aE.nd (pi_keys (nC (pv 1))) (blkOk_by (own:=[("account",2)]) (N:=["self", "parts", "account"]) (sc:=defScope bA) (by decide +kernel)) (fun _ _ _ _ _=>(pg_name (i:=2) aE.nd rfl (Or.inl rfl))) (fun _ _ _ _ _=>pts_nil) (fun _ _ _ _ _=>(cY (kE (P:=P) (w:=w) T TB :) (hr.mono (by decide)) ay T.jG T.di.kp (T.di.binds (ps:=["value"]) (by walk_at "n1")) .nil (pa_cons (pv 2) pa_nil)))) (pe_lock (gT (own:=[("account",2)]) (g:=(gName 2)) (tt:=tYes) rfl aE.nd (pi_keys (nC (pv 1))) (blkOk_by (own:=[("account",2)]) (N:=["self", "parts", "account"]) (sc:=defScope bA) (by decide +kernel)) (fun _ _ _ _ _=>(pg_name (i:=2) aE.nd rfl (Or.inl rfl))) (fun _ _ _ _ _=>pts_nil) (fun _ _ _ _ _=>(cY (kE (P:=P) (w:=w) T TB :) (hr.mono (by decide)) ay T.jG T.di.kp (T.di.binds (ps:=["value"]) (by walk_at "n1")) .nil (pa_cons (pv 2) pa_nil)))))) (gT (own:=[("account",2)]) (g:=(gName 2)) (tt:=tYes) rfl aE.nd (Hw (pv 1)) (blkOk_by (own:=[("account",2)]) (N:=["self", "parts", "account"]) (sc:=defScope bA) (by decide +kernel)) (fun _ _ _ _ _=>(pg_name (i:=2) aE.nd rfl (Or.inl rfl))) (fun _ _ _ _ _=>pts_nil) (fun _ _ _ _ _=>(cY (kE (P:=P) (w:=w) T TB :) (hr.mono (by decide)) ay T.jG T.di.kp (T.di.binds (ps:=["value"]) (by walk_at "n1")) .nil (pa_cons (pv 2) pa_nil))))) pa_nil)))) (pss_one (ps_raise rfl (takes_of (E:=E) rfl rfl rfl rfl) (mq (f := "part") (qy (P:=P) (w:=w) T :) hr (by decide) rfl (pa_cons pe_str pa_nil)))) pss_nil)
  (pss_cons (ps_if (pt_not (pt_val (pe_callB (cr_all rfl) (by rfl) T.Cw (by decide +kernel) (pa_cons (xU (gT (own:=[("account",2)]) (g:=(gName 2)) (tt:=tYes) rfl aE.nd (pi_keys (nC (pv 1))) (blkOk_by (own:=[("account",2)]) (N:=["self", "parts", "account"]) (sc:=defScope bA) (by decide +kernel)) (fun _ _ _ _ _=>(pg_name (i:=2) aE.nd rfl (Or.inl rfl))) (fun _ _ _ _ _=>pts_nil) (fun _ _ _ _ _=>(cY (vh (P:=P) (w:=w) T TB :) (hr.mono (by decide)) ay T.sq T.jF.kp (T.jF.binds (ps:=["value", "most"]) (by walk_at "n2")) .nil (pa_cons (pe_dget (hu_of hr.room) (pv 1) (pv 2) (fun _ _=>rfl)) (pa_cons (B4 (K:=K) rfl (pv 0) (by rfl)) pa_nil))))) (pe_lock (gT (own:=[("account",2)]) (g:=(gName 2)) (tt:=tYes) rfl aE.nd (pi_keys (nC (pv 1))) (blkOk_by (own:=[("account",2)]) (N:=["self", "parts", "account"]) (sc:=defScope bA) (by decide +kernel)) (fun _ _ _ _ _=>(pg_name (i:=2) aE.nd rfl (Or.inl rfl))) (fun _ _ _ _ _=>pts_nil) (fun _ _ _ _ _=>(cY (vh (P:=P) (w:=w) T TB :) (hr.mono (by decide)) ay T.sq T.jF.kp (T.jF.binds (ps:=["value", "most"]) (by walk_at "n2")) .nil (pa_cons (pe_dget (hu_of hr.room) (pv 1) (pv 2) (fun _ _=>rfl)) (pa_cons (B4 (K:=K) rfl (pv 0) (by rfl)) pa_nil))))))) pa_nil)))) (pss_one (ps_raise rfl (takes_of (E:=E) rfl rfl rfl rfl) (mq (f := "part") (qy (P:=P) (w:=w) T :) hr (by decide) rfl (pa_cons pe_str pa_nil)))) pss_nil)
  (pss_one (ps_fld (pv 0) (G3 (own:=[("account",2)]) (g:=(gName 2)) (tt:=tYes) rfl aE.nd (pi_list (pe_callB cr_sortedS (by rfl) T.u5 (by decide +kernel) (pa_cons (xU (gT (own:=[("account",2)]) (g:=(gName 2)) (tt:=tYes) rfl aE.nd (pi_keys (nC (pv 1))) (blkOk_by (own:=[("account",2)]) (N:=["self", "parts", "account"]) (sc:=defScope bA) (by decide +kernel)) (fun _ _ _ _ _=>(pg_name (i:=2) aE.nd rfl (Or.inl rfl))) (fun _ _ _ _ _=>pts_nil) (fun _ _ _ _ _=>(pe_callTy SkE.call_str_str (by rfl) T.u6 (by decide +kernel) (pa_cons (pv 2) pa_nil)))) (pe_lock (gT (own:=[("account",2)]) (g:=(gName 2)) (tt:=tYes) rfl aE.nd (pi_keys (nC (pv 1))) (blkOk_by (own:=[("account",2)]) (N:=["self", "parts", "account"]) (sc:=defScope bA) (by decide +kernel)) (fun _ _ _ _ _=>(pg_name (i:=2) aE.nd rfl (Or.inl rfl))) (fun _ _ _ _ _=>pts_nil) (fun _ _ _ _ _=>(pe_callTy SkE.call_str_str (by rfl) T.u6 (by decide +kernel) (pa_cons (pv 2) pa_nil)))))) pa_nil))) (blkOk_by (own:=[("account",2)]) (N:=["self", "parts", "account"]) (sc:=defScope bA) (by decide +kernel)) (fun _ _ _ _ _=>(pg_name (i:=2) aE.nd rfl (Or.inl rfl))) (fun _ _ _ _ _=>pts_nil) (fun _ _ _ _ _=>(pv 2)) (fun _ _ _ _ _=>(pe_callTy call_int1 (by rfl) T.lG (by decide +kernel) (pa_cons (pe_dget (hu_of hr.room) (pv 1) (pv 2) (fun _ _=>rfl)) pa_nil)))) rfl))))),?_⟩
 walk_at "F"
 refine ⟨_,(az (cJ (fu (fW (cM cZ (af ah (af j7 ai))))) (fJ hW (af aS ai)) bE)
  (az (cJ (fu (fW (cM AI (af (xV (xV (jn (f9 ah) (bM (by decide)) gy (dg aB (fun _=>.nil) (af ah ai))) (uU (i:=1) (jn (f9 ah) (bM (by decide)) gy (dg aB (fun _=>.nil) (af ah ai))))) (jn (Du ah) (bM (by decide)) gy (dg aB (fun _=>.nil) (af ah ai)))) ai)))) (fJ hW (af aS ai)) bE)
  (az (cJ (fu (fW (cM AI (af (xV (jn (f9 ah) (bM (by decide)) gy (dg aB (fun _=>.nil) (af (jy ah ah) (af (xW (p:=(·∈kg D)) fun C hC=>(GL (d:=.int (9)) ((rC T C hC)).cls (rD T C hC) (fun _=>.int _) ah)) ai)))) (uU (i:=1) (jn (f9 ah) (bM (by decide)) gy (dg aB (fun _=>.nil) (af (jy ah ah) (af (xW (p:=(·∈kg D)) fun C hC=>(GL (d:=.int (9)) ((rC T C hC)).cls (rD T C hC) (fun _=>.int _) ah)) ai)))))) ai)))) (fJ hW (af aS ai)) bE)
  (JQ (p:=(·∈kg D)) fun C hC=>t7 (rC T C hC).cls (g9 T C hC) ah (K8 (iX (cM uO (af (xV (jn (f9 ah) (bM (by decide)) gy (cM mJ (af ah ai))) (uU (i:=1) (jn (f9 ah) (bM (by decide)) gy (cM mJ (af ah ai))))) ai))) (bM (by decide)) gy ah (cM xK (af (jy ah ah) ai))))))),?_⟩
 walk_at "C"
 obtain ⟨a,v,rfl,h⟩:=h
 rcases h with h |⟨C,s,hC,ha,hb,k⟩
 ·obtain ⟨a,C,v,ts,e,hv,hC,ha,ht,k⟩:=h
  cases e
  have hnm:∀ t∈ts,t.1.length≤sizeLine:=fun t m=>jE (ht.1 t m).1
  have hl:ts.length≤sizeLine:=Nat.le_trans ht.2.2 (by decide)
  have IT:∀ {ρ:Ev} {μ:Mu},ρ[1]? = some (some (.dct (nR ts)))→Vi (uM (kX 1)) ρ μ (ts.map fun t=>Dt.str t.1):=fun h=>by
   rw [← xZ]
   exact mL (ak h)
  have NL:∀ {f:Str×Int→Dt},(∀ t,ND (f t))→ND (.lst (ts.map f)):=fun h=>.lst fun d hd=>by
   obtain ⟨t,_,rfl⟩:=eX hd
   exact h t
  refine fY (aY (dW (fK (hv.is (ak rfl)))) rfl) ?_
  refine fY (aY (dW (fK (r9 (bs:=ts.map fun t=>bO (.str t.1)) (dN (ua (hv.ve (d:=.lst (ts.map fun t=>.bl (bO (.str t.1)))) rfl (NL fun _=>.bl _) fun μ' hμ=>mP (fun t:Str×Int=>Dt.str t.1) (fun t=>.bl (bO (.str t.1))) _ (IT rfl) hl (fun t m=>g7) (fun t m=>pC (aj (ak rfl) aA) fun q' x' k'=>⟨_,rfl,.str _,fun z e=>by cases e;exact hnm t m,k'⟩))) (by rw [List.map_map];rfl))))) ?_) ?_
  ·have:(ts.map fun t=>bO (.str t.1)).all id=true:=by
    rw [List.all_map,List.all_eq_true]
    exact fun t m=>(ht.1 t m).1
   rw [this]
   rfl
  refine fY (aY (dW (fK (r9 (bs:=ts.map fun t=>fB (.int t.2) 9) (dN (hv.ve (d:=.lst (ts.map fun t=>.bl (fB (.int t.2) 9))) rfl (NL fun _=>.bl _) fun μ' hμ=>mP (fun t:Str×Int=>Dt.str t.1) (fun t=>.bl (fB (.int t.2) 9)) _ (IT rfl) hl (fun t m=>g7) (fun t m=>pC (aj (mK (k:=.inr t.1) (ak rfl) (ak rfl) rfl rfl (qw ht.2.1 m)) (aj (B6 C hC (G6 (ak rfl) (Cd (hμ a C [] ha)) rfl)) aA)) fun q' x' k'=>⟨_,_,rfl,.int _,k'⟩)) (by rw [List.map_map];rfl))))) ?_) ?_
  ·have:(ts.map fun t=>fB (.int t.2) 9).all id=true:=by
    rw [List.all_map,List.all_eq_true]
    exact fun t m=>(ht.1 t m).2
   rw [this]
   rfl
  refine ⟨C,hC,?_⟩
  refine T9 (ss:=ts.map fun t=>t.1) (dN (hv.ve (d:=.lst (ts.map fun t=>.str t.1)) rfl (NL fun _=>.str _) fun μ' hμ=>mP (fun t:Str×Int=>Dt.str t.1) (fun t=>.str t.1) _ (IT rfl) hl (fun t m=>g7) (fun t m=>B7 (ak rfl))) (by rw [List.map_map];rfl)) (by rw [List.length_map];have:=ht.2.2;omega) fun ys p s=>?_
  have hy:ys.length≤sizeLine:=by rw [p.length_eq,List.length_map];exact hl
  refine ⟨_,rfl,by rw [List.length_map];exact hy,Pn Dt.str Dt.str (fun y=>.int (oK ts y)) (fun y=>.inr y) _ hy (fun y m=>g7) (fun y m=>?_) ?_ ?_⟩
  ·obtain ⟨t,mt,rfl⟩:=eX (p.mem_iff.mp m)
   refine ⟨ak rfl,?_,rfl⟩
   rw [oM ht.2.1 mt]
   exact JR (mK (k:=.inr t.1) (ak rfl) (ak rfl) hv.dct rfl (qw ht.2.1 mt))
  ·exact (p.nodup_iff.mpr ht.2.1).map _ fun _ _ n e=>n (Sum.inr.inj e)
  ·have k':=k _ (Hj ht.2.1 p s)
   rw [M6] at k'
   exact ⟨_,rfl,a,[],rfl,ha,by decide,k'⟩
 ·have NL:∀ {α:Type} {as:List α} {f:α→Bool},ND (.lst (as.map fun a=>Dt.bl (f a))):=.lst fun d hd=>by
   obtain ⟨t,_,rfl⟩:=eX hd
   exact .bl _
  have LH:60≤sizeLine:=by decide
  cases hb with
  |parts h no=>exact uL (aY (dW (fK (uP (by decide) (ak rfl) h))) (by rw [no];rfl)) (Kl aF k)
  |@acc _ us hv l n b=>
   refine fY (aY (dW (fK (hv.is (ak rfl)))) rfl) ?_
   exact uL (aY (dW (fK (r9 (bs:=us.map fun u=>bO (.str u.1)) (dN (ua (hv.ve (d:=.lst (us.map fun u=>.bl (bO (.str u.1)))) rfl NL fun μ' hμ=>mP (fun u:Str×Dt=>Dt.str u.1) (fun u=>.bl (bO (.str u.1))) _ (mO (mL (ak rfl)) (q8 us)) (Nat.le_trans n LH) (fun t m=>g7) (fun u m=>pC (aj (ak rfl) aA) fun q' x' k'=>⟨_,rfl,.str _,fun z e=>by cases e;exact l u m,k'⟩))) (by rw [List.map_map];rfl))))) (by rw [List.all_map];exact congrArg not b)) (Kl aF k)
  |@part _ us hv nd n al kn b=>
   refine fY (aY (dW (fK (hv.is (ak rfl)))) rfl) ?_
   refine fY (aY (dW (fK (r9 (bs:=us.map fun u=>bO (.str u.1)) (dN (ua (hv.ve (d:=.lst (us.map fun u=>.bl (bO (.str u.1)))) rfl NL fun μ' hμ=>mP (fun u:Str×Dt=>Dt.str u.1) (fun u=>.bl (bO (.str u.1))) _ (mO (mL (ak rfl)) (q8 us)) (Nat.le_trans n LH) (fun t m=>g7) (fun u m=>pC (aj (ak rfl) aA) fun q' x' k'=>⟨_,rfl,.str _,fun z e=>by cases e;exact jE (al u m),k'⟩))) (by rw [List.map_map];rfl))))) (by rw [List.all_map];show (!us.all fun u=>bO (.str u.1))=false;rw [List.all_eq_true.mpr fun u m=>al u m];rfl)) ?_
   exact uL (aY (dW (fK (r9 (bs:=us.map fun u=>fB u.2 9) (dN (hv.ve (d:=.lst (us.map fun u=>.bl (fB u.2 9))) rfl NL fun μ' hμ=>mP (fun u:Str×Dt=>Dt.str u.1) (fun u=>.bl (fB u.2 9)) _ (mO (mL (ak rfl)) (q8 us)) (Nat.le_trans n LH) (fun t m=>g7) (fun u m=>pC (aj (mK (k:=.inr u.1) (ak rfl) (ak rfl) rfl rfl (Nv nd m)) (aj (B6 C hC (G6 (ak rfl) (Cd (hμ a C [] ha)) rfl)) aA)) fun q' x' k'=>⟨_,_,rfl,kn u m _,k'⟩)) (by rw [List.map_map];rfl))))) (by rw [List.all_map];exact congrArg not b)) (Kl aF k)
  |@mix ks kn l n b=>
   refine fY (aY (dW (fK (HR (ak rfl)))) rfl) ?_
   exact uL (aY (dW (fK (r9 (bs:=ks.map bO) (dN (B5 (mP (fun d:Dt=>d) (fun d=>.bl (bO d)) _ (mO (Sj (ak rfl)) (List.map_id' ks).symm) (Nat.le_trans n LH) (fun t m=>g7) (fun d m=>pC (aj (ak rfl) aA) fun q' x' k'=>⟨_,rfl,kn d m _,fun z e=>l z (e▸m),k'⟩))) (by rw [List.map_map];rfl))))) (by rw [List.all_map];exact congrArg not b)) (Kl aF k)
theorem dP:FnScope ["_law_pen_here", "_law_many", "_law_digit", "_law_begun", "_law_lone", "_law_great", "_law_mixed"] ["_law_pen_here", "_law_many"] (defScope nS):=by walk_at "S"
theorem pZ (T:Txt K mg D):gG P w K mg base 2 D.gB D.iT ["_law_pen_here", "_law_many"] AE:=by
 refine Fun.pA T.bY dP (fun vs H Q E h=>?_) (fun cdv A outer s H vs Q E hr h=>?_)
 ·obtain ⟨p,c,m,n,rfl,hP,hn,h0,hm,k⟩:=h
  rfl
 ·obtain ⟨p,c,m,n,rfl,hP,hn,h0,hm,k⟩:=h
  refine ⟨_,(pss_cons (ps_if (pt_cmpR op_gt (pe_ix ix_list (pv 0) pe_int (fun _ _=>rfl)) pe_int (nomark _)) (pss_cons (ps_set (i:=2) dP.nd rfl (Or.inl rfl) (pe_op oz (pe_callTy call_int1 (by rfl) T.lG (by decide +kernel) (pa_cons (pe_ix ix_list (pv 0) pe_int (fun _ _=>rfl)) pa_nil)) (pv 1)))
   (pss_cons (ps_asg (pe_op qM (pe_callTy call_int1 (by rfl) T.lG (by decide +kernel) (pa_cons (pe_ix ix_list (pv 0) pe_int (fun _ _=>rfl)) pa_nil)) (pv 1)) (pg_sub (pv 0) pe_int set_list))
   (pss_one (ps_ret (pv 2))))) pss_nil)
   (pss_cons (ps_set (i:=3) dP.nd rfl (Or.inl rfl) (pe_ix ix_list (pv 0) pe_int (fun _ _=>rfl)))
   (C8.pss_cut (ps_asg (pe_op op_add (pv 3) pe_int) (pg_sub (pv 0) pe_int set_list))
   (pss_cons (ps_set (i:=4) dP.nd rfl (Or.inl rfl) (pe_op op_add (pe_op eN pe_int (pv 3)) pe_int))
   (C8.pss_cut (ps_if (pt_cmpR (op_neD hr.room.units) (pe_ix ix_list (pv 0) pe_int (fun _ _=>rfl)) (cI pa_nil) (nomark _)) (pss_one (ps_set (i:=4) dP.nd rfl (Or.inl rfl) (pe_ix ix_list (pe_ix ix_list (pv 0) pe_int (fun _ _=>rfl)) (pe_op oz (pe_callTy call_int1 (by rfl) T.lG (by decide +kernel) (pa_cons (pv 3) pa_nil)) (pe_callB call_len (by rfl) T.wU (by decide +kernel) (pa_cons (pe_ix ix_list (pv 0) pe_int (fun _ _=>rfl)) pa_nil))) (fun _ _=>rfl)))) pss_nil)
   (C8.pss_cut (ps_if (PW.pt (pw_and (pt_cmpR op_lt (pv 3) (pe_callB call_len (by rfl) T.wU (by decide +kernel) (pa_cons (pe_ix ix_list (pv 0) pe_int (fun _ _=>rfl)) pa_nil)) (nomark _)) (pw_and1 (pt_cmpR op_ge (pe_callB call_abs (by rfl) T.zO (by decide +kernel) (pa_cons (pv 4) pa_nil)) (pe_op qm pe_int pe_int) (nomark _))))) (pss_cons (ps_set (i:=5) dP.nd rfl (Or.inl rfl) (pe_op op_add (pe_op eN pe_int (pe_op op_sub (pe_callB call_abs (by rfl) T.zO (by decide +kernel) (pa_cons (pv 4) pa_nil)) (pe_op qm pe_int pe_int))) (pe_callTy call_int1 (by rfl) T.lG (by decide +kernel) (pa_cons (pe_cmpR op_lt (pv 4) pe_int (nomark _)) pa_nil))))
   (pss_cons (ps_asg (pe_op qM (pe_callTy call_int1 (by rfl) T.lG (by decide +kernel) (pa_cons (pv 5) pa_nil)) (pv 1)) (pg_sub (pv 0) pe_int set_list))
   (pss_one (ps_ret (pe_op oz (pe_callTy call_int1 (by rfl) T.lG (by decide +kernel) (pa_cons (pv 5) pa_nil)) (pv 1)))))) pss_nil)
   (C8.pss_cut (ps_set (i:=6) dP.nd rfl (Or.inl rfl) (pe_op oz (pe_callTy call_int1 (by rfl) T.lG (by decide +kernel) (pa_cons (pe_op qm (pe_op op_add (pe_op op_add (pe_op oz (pe_callTy call_int1 (by rfl) T.lG (by decide +kernel) (pa_cons (pv 4) pa_nil)) pe_int) (pe_op eN pe_int (pv 3))) pe_int) pe_int) pa_nil)) pe_int))
   (C8.pss_cut (ps_set (i:=6) dP.nd rfl (Or.inl rfl) (pe_op oz (pe_callTy call_int1 (by rfl) T.lG (by decide +kernel) (pa_cons (pe_op qm (pe_op op_add (pe_op op_add (pe_op eN (pv 6) (pe_op op_add (pe_op eN pe_int (pv 3)) pe_int)) (pe_op eN (pe_op eN pe_int (pv 3)) (pv 3))) pe_int) pe_int) pa_nil)) pe_int))
   (pss_one (ps_ret (pe_op oz (pe_callTy call_int1 (by rfl) T.lG (by decide +kernel) (pa_cons (pe_op qM (pv 6) pe_int) pa_nil)) (pv 1)))))))))))),?_⟩
  obtain ⟨ns,b,g,h1,h2,hcp,hb0,hbn,Ut,hgs,hns,hl⟩:=hP.ex
  have QM:m≠0:=by omega
  have Uu:Bs 0 m:=⟨QM,4000,hm,by decide,by decide⟩
  refine ⟨_,rfl,_,_,_,_,rfl,rfl,SqL.of h1,rfl,_,_,rfl,rfl,_,rfl,ite2 (fun hg=>?_) (fun hg=>?_)⟩
  ·-- a digit of a great cell
   refine ⟨_,rfl,_,_,_,_,rfl,rfl,SqL.of h1,rfl,.inl ⟨_,rfl,_,rfl,_,_,rfl,rfl,QM,?_⟩⟩
   refine ⟨_,rfl,_,_,_,_,rfl,rfl,SqL.of h1,rfl,.inl ⟨_,rfl,_,rfl,_,_,rfl,rfl,Uu,?_⟩⟩
   refine ⟨_,rfl,_,_,_,_,rfl,rfl,h1,rfl,?_⟩
   refine ⟨_,rfl,?_⟩
   refine k _ _ (Int.fmod_nonneg_of_pos _ h0) (Int.fmod_lt_of_pos _ h0) ⟨ns,b,g.fdiv m,upd_same,by rw [upd_ne hcp];exact h2,hcp,hb0,by omega,?_,hgs.fdiv m,hns,hl⟩ rJ.upd
   exact Int.fdiv_nonneg Ut (by omega)
  ·refine ⟨_,rfl,_,_,_,_,rfl,rfl,SqL.of h1,rfl,fun σ' H'=>σ'=[some (.ref p),some (.int m),none,some (.int b),none,none,none]∧H' p=some (.lst [V.ref c,V.int (b+1),V.int g])∧H' c=some (.lst (ns.map V.int))∧rJ p H H',
    ⟨_,rfl,_,_,rfl,rfl,_,rfl,_,_,_,1,rfl,rfl,h1,rfl,rfl,upd_same,by rw [upd_ne hcp];exact h2,rJ.upd⟩,?_⟩
   rintro σ' H1 ⟨rfl,h3,h4,B1⟩
   refine ⟨_,rfl,_,_,rfl,rfl,⟨64,64,by walk_at "sz",by walk_at "sz",by decide⟩,_,_,rfl,rfl,?_⟩
   -- Lk cells are there or not
   refine ⟨fun σ' H'=>∃ lone,σ'=[some (.ref p),some (.int m),none,some (.int b),some (.int lone),none,none]∧Sz 1048576 lone∧H' p=some (.lst [V.ref c,V.int (b+1),V.int g])∧H' c=some (.lst (ns.map V.int))∧rJ p H H',?_,?_⟩
   ·refine ⟨_,rfl,_,_,_,_,rfl,rfl,SqL.of h3,rfl,by show 0≤sizeLine;decide,fun q hq WH=>?_⟩
    have h5:upd H1 q (.lst []) p=some (.lst [V.ref c,V.int (b+1),V.int g]):=tY hq h3
    have h6:upd H1 q (.lst []) c=some (.lst (ns.map V.int)):=tY hq h4
    have B2:rJ p H (upd H1 q (.lst [])):=B1.same (j3 hq)
    have hq2:upd H1 q (.lst []) q=some (.lst []):=upd_same
    generalize upd H1 q (.lst [])=H2 at h5 h6 B2 hq2 ⊢
    refine ⟨_,_,.lst (SqL.of h6) (Bt ns),.lst (SqL.of hq2) .nil,shaped_ints ns,rfl,_,rfl,?_⟩
    rw [IE]
    by_cases he:ns=[]
    ·subst he
     refine iteF ⟨_,rfl,?_,h5,h6,B2⟩
     exact Sz.mono (m:=64) (by walk_at "sz") (by decide)
    ·have V6:0<ns.length:=List.length_pos_iff.mpr he
     rw [show (!ns.isEmpty)=true by simp [he]]
     have hix:b.fmod (ns.length:Int)=((b.toNat % ns.length:Nat):Int):=by
      obtain ⟨b',rfl⟩:∃ b':Nat,b=b':=⟨b.toNat,by omega⟩
      rw [Int.fmod_eq_emod_of_nonneg _ (by omega)]
      rfl
     have hlt:b.toNat % ns.length<ns.length:=Nat.mod_lt _ V6
     refine iteT ⟨_,rfl,_,_,_,_,rfl,rfl,SqL.of h5,rfl,_,rfl,.inl ⟨_,rfl,_,rfl,_,_,_,_,rfl,rfl,SqL.of h5,rfl,_,_,rfl,.inl ⟨_,SqL.of h6,rfl⟩,_,_,rfl,rfl,by simp;omega,_,_,_,_,rfl,rfl,SqL.of h6,(by rw [List.length_map,hix];exact atI_nat (v:=V.int (ns[b.toNat % ns.length]'hlt)) (by simp [hlt])),?_⟩⟩
     exact ⟨_,rfl,hns _ (List.getElem_mem _),h5,h6,B2⟩
   ·rintro σ' H2 ⟨lone,rfl,PM,h5,h6,B2⟩
    have ha:Sz 1048576 (if lone<0 then -lone else lone):=PM.abs
    have Uv:v9 10 18:=⟨by decide,4,by unfold Sz;decide,by decide⟩
    have QN:(10:Int) ^ (18:Int).toNat=1000000000000000000:=by decide
    refine ⟨fun σ' H'=>σ'=[some (.ref p),some (.int m),none,some (.int b),some (.int lone),none,none]∧H'=H2,?_,?_⟩
    ·refine ⟨_,rfl,_,rfl,_,_,_,_,rfl,rfl,SqL.of h5,rfl,_,_,rfl,.inl ⟨_,SqL.of h6,rfl⟩,_,_,rfl,rfl,_,rfl,ite2 (fun hlt=>?_) (fun hlt=>iteF ⟨rfl,rfl⟩)⟩
     refine ⟨_,rfl,_,rfl,_,_,rfl,rfl,Uv,_,_,rfl,rfl,_,rfl,ite2 (fun hge=>?_) (fun hge=>⟨rfl,rfl⟩)⟩
     rw [QN] at hge
     have V7:(1000000000000000000:Int)≤if lone<0 then -lone else lone:=aN hge
     -- a great cell
     have hG:Sz 1048600 (2*((if lone<0 then -lone else lone) - (10:Int) ^ (18:Int).toNat)+(if decide (lone<0)=true then 1 else 0)):=by
      rw [QN]
      refine Sz.mono (Sz.add (m:=1048579) (n:=2) (Sz.mul (m:=2) (n:=1048577) (by unfold Sz;decide) ((ha.sub (n:=64) (by walk_at "sz")).mono (by decide))) ?_) (by decide)
      unfold Sz;split <;> decide
     have V8:0≤2*((if lone<0 then -lone else lone) - (10:Int) ^ (18:Int).toNat)+(if decide (lone<0)=true then 1 else 0):=by
      rw [QN]
      split <;> split <;> simp_all <;> omega
     refine ⟨_,rfl,_,rfl,_,_,rfl,rfl,Uv,_,_,rfl,rfl,_,_,rfl,rfl,⟨2,1048577,by unfold Sz;decide,(by rw [QN];exact (ha.sub (n:=64) (by walk_at "sz")).mono (by decide)),by decide⟩,_,rfl,_,_,rfl,rfl,.inr ⟨_,rfl,_,_,rfl,rfl,?_⟩⟩
     refine ⟨_,rfl,.inl ⟨_,rfl,_,rfl,_,_,rfl,rfl,Uu,_,rfl,_,_,_,2,rfl,rfl,h5,rfl,_,rfl,.inl ⟨_,rfl,_,rfl,_,_,rfl,rfl,QM,?_⟩⟩⟩
     refine k _ _ (Int.fmod_nonneg_of_pos _ h0) (Int.fmod_lt_of_pos _ h0) ⟨ns,b+1,_,upd_same,by rw [upd_ne hcp];exact h6,hcp,by omega,by omega,Int.fdiv_nonneg V8 (by omega),hG.fdiv m,hns,hl⟩ (B2.trans rJ.upd)
    ·rintro σ' H3 ⟨rfl,rfl⟩
     have small:∀ (lone c1:Int),0<c1→c1<4294967296→0≤lone.fmod c1∧lone.fmod c1<4294967296:=fun lone c1 h1 h2=>⟨Int.fmod_nonneg_of_pos _ h1,Int.lt_trans (Int.fmod_lt_of_pos _ h1) h2⟩
     refine ⟨fun σ' H'=>∃ x:Int,σ'=[some (.ref p),some (.int m),none,some (.int b),some (.int lone),none,some (.int x)]∧H'=H3∧0≤x∧x<4294967296,?_,?_⟩
     ·refine ⟨_,rfl,.inl ⟨_,rfl,_,_,rfl,rfl,by walk_at "nz",_,rfl,_,_,rfl,rfl,⟨64,64,by walk_at "sz",by walk_at "sz",by decide⟩,_,_,rfl,rfl,_,_,rfl,rfl,?_⟩⟩
      refine ⟨_,_,rfl,rfl,⟨by decide,_,by walk_at "sz",by decide⟩,.inl ⟨_,rfl,_,_,rfl,rfl,by walk_at "nz",?_⟩⟩
      exact ⟨_,rfl,rfl,small _ _ (by decide) (by decide)⟩
     ·rintro σ' H4 ⟨x,rfl,rfl,V9,hx1⟩
      refine ⟨fun σ' H'=>∃ x:Int,σ'=[some (.ref p),some (.int m),none,some (.int b),some (.int lone),none,some (.int x)]∧H'=H4∧0≤x∧x<4294967296,?_,?_⟩
      ·refine ⟨_,rfl,_,rfl,_,_,rfl,rfl,⟨64,64,by walk_at "sz",by walk_at "sz",by decide⟩,_,_,rfl,rfl,_,_,rfl,rfl,⟨64,64,by walk_at "sz",by walk_at "sz",by decide⟩,?_⟩
       refine ⟨_,rfl,_,_,rfl,rfl,⟨64,64,by walk_at "sz",by walk_at "sz",by decide⟩,_,rfl,_,_,rfl,rfl,⟨_,64,by walk_at "sz",by walk_at "sz",by decide⟩,_,_,rfl,rfl,_,_,rfl,rfl,?_⟩
       refine ⟨_,_,rfl,rfl,⟨by decide,_,by walk_at "sz",by decide⟩,.inl ⟨_,rfl,_,_,rfl,rfl,by walk_at "nz",?_⟩⟩
       exact ⟨_,rfl,rfl,small _ _ (by decide) (by decide)⟩
      ·rintro σ' H5 ⟨x,rfl,rfl,V9,hx1⟩
       refine ⟨_,rfl,_,_,rfl,rfl,⟨by walk_at "nz",64,by walk_at "sz",by decide,by decide⟩,.inl ⟨_,rfl,_,rfl,_,_,rfl,rfl,QM,?_⟩⟩
       exact k _ _ (Int.fmod_nonneg_of_pos _ h0) (Int.fmod_lt_of_pos _ h0) ⟨ns,b+1,g,h5,h6,hcp,by omega,by omega,Ut,hgs,hns,hl⟩ B2
theorem jB (T:Txt K mg D) (_:pe K mg base):gG P w K mg base 2 D.gB D.iT ["_law_pen_here", "_law_many"] (aV K BO):=(pZ T).imp fun _ _ _ _ h=>C9 h
theorem ym:FnScope ["_law_pen_here", "_law_some"] ["_law_pen_here", "_law_some"] (defScope nU):=by walk_at "S"
theorem vO (T:Txt K mg D):gG P w K mg base 3 D.iU D.kG ["_law_pen_here", "_law_some"] (Fj K):=by
 refine Fun.pA T.aG ym (fun vs H Q E h=>?_) (fun cdv A outer s H vs Q E hr h=>?_)
 ·obtain ⟨p,c,x,xs,n,rfl,hP,hn,hx,h0,h1,k⟩:=h
  rfl
 ·obtain ⟨p,c,x,xs,n,rfl,hP,hn,hx,h0,h1,k⟩:=h
  have zU:gG P w K mg base 2 D.gB D.iT ["_law_pen_here", "_law_many"] AE:=pZ T
  refine ⟨_,(pss_one (ps_ret (pe_ix ix_seq (pv 1) (cY zU (hr.mono (by decide)) ay T.gH T.bY.kp (T.bY.binds (ps:=["_law_pen_here", "_law_many"]) (by walk_at "n2")) .nil (pa_cons (pv 0) (pa_cons (pe_callB call_len (by rfl) T.wU (by decide +kernel) (pa_cons (pv 1) pa_nil)) pa_nil))) (fun _ _=>rfl)))),?_⟩
  refine ⟨_,rfl,_,rfl,_,rfl,_,_,rfl,(hx.same Hd.same).len,p,_,_,n,rfl,hP,hn,by omega,(Sz.of_lt (n:=64) (by simp only [Nat.reducePow];omega) (by simp only [Nat.reducePow];omega)).mono (by decide),fun r H' r0 r1 MH B=>?_⟩
  exact (hx.same B.sub).ix r0 r1 fun v hv=>k v hv H' MH B
theorem cz (T:Txt K mg D) (_:pe K mg base):gG P w K mg base 3 D.iU D.kG ["_law_pen_here", "_law_some"] (aV K y9):=(vO T).imp fun _ _ _ _ h=>Dc h
theorem fU:FnScope ["_law_pen_here", "_law_many", "_law_left", "_law_spot"] ["_law_pen_here", "_law_many"] (defScope gi):=by walk_at "S"
theorem lK (T:Txt K mg D) (TB:pe K mg base):gG P w K mg base 4 D.gm D.i8 ["_law_pen_here", "_law_many"] (aV K JX):=by
 refine Fun.pA T.dj fU ?_ ?_
 walk_at "A3"
 walk_at "P"
 refine ⟨_,(pss_cons (ps_set (i:=2) fU.nd rfl (Or.inr rfl) (pe_callTy call_list_of (by rfl) T.ye (by decide +kernel) (pa_cons (cY (cz (P:=P) (w:=w) T TB :) (hr.mono (by decide)) ay T.cE T.aG.kp (T.aG.binds (ps:=["_law_pen_here", "_law_some"]) (by walk_at "n2")) .nil (pa_cons (pv 0) (pa_cons (cI (pa_cons (cI (pa_cons pe_str (pa_cons pe_str (pa_cons pe_str (pa_cons pe_str (pa_cons pe_str pa_nil)))))) (pa_cons (cI (pa_cons pe_str (pa_cons pe_str (pa_cons pe_str (pa_cons pe_str (pa_cons pe_str pa_nil)))))) (pa_cons (cI (pa_cons pe_str (pa_cons pe_str (pa_cons pe_str (pa_cons pe_str (pa_cons pe_str pa_nil)))))) (pa_cons (cI (pa_cons pe_str (pa_cons pe_str (pa_cons pe_str (pa_cons pe_str (pa_cons pe_str pa_nil)))))) pa_nil))))) pa_nil))) pa_nil)))
  (pss_one (ps_ret (gT (own:=[("_law_spot",3)]) (g:=(gName 3)) (tt:=tYes) rfl fU.nd (pi_range1 (by rfl) T.yf (pa_cons (pv 1) pa_nil)) (blkOk_by (own:=[("_law_spot",3)]) (N:=["_law_pen_here", "_law_many", "_law_left", "_law_spot"]) (sc:=defScope gi) (by decide +kernel)) (fun _ _ _ _ _=>(pg_name (i:=3) fU.nd rfl (Or.inl rfl))) (fun _ _ _ _ _=>pts_nil) (fun _ _ _ _ _=>(M7 (K:=K) rfl PySem.F.plainAttrs_list PySem.F.slot_list_pop PySem.F.type_list_pop mt_popAt (pv 2) (pa_cons (cY (jB (P:=P) (w:=w) T TB :) (hr.mono (by decide)) ay T.gH T.bY.kp (T.bY.binds (ps:=["_law_pen_here", "_law_many"]) (by walk_at "n2")) .nil (pa_cons (pv 0) (pa_cons (pe_callB (Dq (K:=K) rfl) (by rfl) T.wU (by decide +kernel) (pa_cons (pv 2) pa_nil)) pa_nil))) pa_nil))))))),?_⟩
 walk_at "F"
 refine ⟨_,(az (bU (cM r8 (af (dg aB (fun _=>.nil) (af ah (af (eO (af (eO (af aS (af aS (af aS (af aS (af aS ai)))))) (af (eO (af aS (af aS (af aS (af aS (af aS ai)))))) (af (eO (af aS (af aS (af aS (af aS (af aS ai)))))) (af (eO (af aS (af aS (af aS (af aS (af aS ai)))))) ai))))) ai))) ai)) aH)
  (aU (Hg (i:=2) (jn (wh (af ah ai)) (bM (by decide)) gy (GZ ah (af (dg aB (fun _=>.nil) (af ah (af (cM sM (af ah ai)) ai))) ai)))))),?_⟩
 walk_at "C"
 obtain ⟨p,n,k0,rfl,hp,hn,h0,h5,k⟩:=h
 refine tK (b9 (oH (xs:=qZ.map fun P=>.lst (P.map Dt.str)) rfl (eS (aj (eS (aj aF (aj aF (aj aF (aj aF (aj aF aA))))) (by show 5≤sizeLine;decide)) (aj (eS (aj aF (aj aF (aj aF (aj aF (aj aF aA))))) (by show 5≤sizeLine;decide)) (aj (eS (aj aF (aj aF (aj aF (aj aF (aj aF aA))))) (by show 5≤sizeLine;decide)) (aj (eS (aj aF (aj aF (aj aF (aj aF (aj aF aA))))) (by show 5≤sizeLine;decide)) aA)))) (by show 4≤sizeLine;decide)) hp (by omega) (by decide) (by decide) fun d hd=>?_))
 obtain ⟨P,hP,rfl⟩:=eX hd
 obtain ⟨Wa,Wb,_⟩:=zz P hP
 refine ⟨_,_,rfl,rfl,fun pl hpl=>?_⟩
 have ne:p≠pl:=fun z=>by rw [← z,aq] at hpl;cases hpl
 refine Pb (RJ (b9 ⟨_,rfl,k0,rfl,by omega,by omega,?_,?_⟩))
 ·rw [Cc]
  exact Nat.le_trans (by omega:k0.toNat≤5) (by decide:5≤sizeLine)
 have rl:=Cc k0
 refine Gp (fun i acc μ'=>∃ zs left:List Str,acc=zs.map Dt.str∧zs.length=i∧(zs++left).Perm P∧μ'=aJ (aJ P0.μ p (.jD (n+1+i))) pl (.lst (left.map Dt.str))) ⟨[],P,rfl,rfl,.refl _,rfl⟩ ?_ ?_
 ·rintro i x acc μ' ⟨zs,left,rfl,hz,PN,rfl⟩ hx
  have hi:i<k0.toNat:=by
   have:=(List.getElem?_eq_some_iff.mp hx).1
   omega
  have hlen:=PN.length_eq
  rw [List.length_append,Wa,hz] at hlen
  have V:Ve (xJ Jm (bD (kX 2) fk)) (List.set (j5 (((uu [Str.ofString "_law_pen_here",Str.ofString "_law_many",Str.ofString "_law_left",Str.ofString "_law_spot"] [Dt.raw (V.ref p),Dt.int k0])).set 2 (some (Dt.raw (V.ref pl)))) [3]) 3 (some x)) (aJ (aJ P0.μ p (.jD (n+1+i))) pl (.lst (left.map Dt.str))) (.int left.length):=by
   exact dN (MZ (n:=(left.map Dt.str).length) (ak rfl) (M4 aq) (fun z e=>nomatch e)) (by rw [List.length_map])
  refine Pg ⟨_,rfl,pl,rfl,⟨_,aq⟩,b9 (MS (n:=n+1+i) rfl V (by rw [aX ne];exact aq) (by omega) (by omega) (by unfold Sz;omega) fun r r0 r1=>?_)⟩
  have hr:r.toNat<left.length:=by omega
  refine ⟨left.map Dt.str,r,r.toNat,.str left[r.toNat],rfl,by rw [aX (fun z=>ne z.symm)];exact aq,by omega,by omega,?_,by simp [hr],?_⟩
  ·unfold seqIndex?
   rw [List.length_map]
   simp
   omega
  ·refine ⟨zs++[left[r.toNat]],left.eraseIdx r.toNat,by simp,by simp [hz],?_,?_⟩
   ·rw [List.append_assoc]
    exact (List.Perm.append_left zs (erase_perm hr)).trans PN
   ·rw [iH ne,aO,iH (fun z=>ne z.symm),aO,wF]
    rfl
 ·rintro acc μ' ⟨zs,left,rfl,hz,PN,rfl⟩
  rw [rl] at hz
  refine ⟨pl,rfl,?_⟩
  have H7:P0.μ pl=none:=by rw [aX (fun z=>ne z.symm)] at hpl;exact hpl
  rw [rl,gz (by rw [aX (fun z=>ne z.symm)];exact H7),← hz]
  have nd:=PN.nodup_iff.mpr Wb
  exact k zs (by omega) ⟨(List.nodup_append.mp nd).1,P,hP,fun z hz=>PN.mem_iff.mp (List.mem_append_left _ hz)⟩
theorem iQ:FnScope ["_law_thing", "_law_caught", "error"] ["_law_thing"] (defScope lS):=by walk_at "S"
theorem gh (T:Txt K mg D) (TB:pe K mg base):gG P w K mg base 7 D.jt D.lZ ["_law_thing"] (aV K (HL K)):=by
 refine Fun.pA T.bF iQ ?_ ?_
 walk_at "A1"
 walk_at "P"
 have tP:=@HU K
 have hW:=eU hx
 refine ⟨_,(pss_cons (ps_set (i:=1) iQ.nd rfl (Or.inl rfl) pe_non)
  (pss_cons (CQ (i:=2) (tb:=_) (ts:=_) rfl rfl rfl iQ.nd rfl rfl ⟨rfl,by decide,Or.inl T.ri⟩ (takes_of (E:=E) rfl rfl rfl rfl) (fun W pn xe tk hp=>(pss_one (ps_expr (nj T.lH (ie (P:=P) (w:=w) T TB :) (hr.mono (by decide)) tk T.oR (DJ (ps:=["self", "parts"]) T.eL (by walk_at "bkq0")) (pa_cons (pv 0) pa_nil) pk_nil)))) (fun a pn=>(pss_one (ps_set (i:=1) iQ.nd rfl (Or.inl rfl) (pv 2)))))
  (pss_cons (ps_if (pt_cmp (pc_isN (pv 1)) rfl) (pss_one (ps_ret pe_non)) pss_nil)
  (pss_one (ps_ret (pe_ifExp (pt_val (pe_callB iO (by rfl) T.bG (by decide +kernel) (pa_cons (pv 1) (pa_cons (pe_glob (v:=.ref D.d8) rfl T.sr rfl) pa_nil)))) (Oe (pv 1)) pe_str)))))),?_⟩
 walk_at "F"
 refine ⟨_,(az (bU qp aH)
  (az (MC hW (fun B' W' w' WI hW=>(Jo (nB hW tP (af ah ai) ai))) (fun B' a=>(bU ah aH)))
  (az (cJ (fW (FT ah)) (aU qp) bE)
  (aU (OJ (fW (cM cZ (af ah (af j7 ai)))) (OL T.u7 T.jl ah) aS))))),?_⟩
 walk_at "C"
 obtain ⟨v,rfl,h⟩:=h
 refine qu aF (MU ?_)
 rcases h with ⟨ts,hv,ht,k⟩|⟨s,hb,k⟩
 ·refine RI (b9 ⟨_,rfl,rfl,rfl,fun x hx=>⟨x,_,rfl,.inl ⟨x,_,v,ts,rfl,hv.set hx,by simp [kg],aq,ht,fun us hu=>⟨rfl,_,aq,?_⟩⟩⟩⟩)
  rw [mG hx]
  exact zh (fK (b:=true) (xT (b:=true) (ak rfl) rfl)) aF k
 ·refine RI (b9 ⟨_,rfl,rfl,rfl,fun x hx=>⟨x,_,rfl,.inr ⟨_,s,by simp [kg],aq,hb x _ hx,⟨?_⟩⟩⟩⟩)
  refine ⟨true,T.vf,fun _=>Gu (ak rfl) ?_,fun z=>nomatch z⟩
  rw [gz hx]
  dsimp only
  refine fY (fK (xT (ak rfl) rfl)) ?_
  exact jf (Pa (b:=true) (fK (MT (ak rfl) T.wY (.own _) (yQ _ _))) (fun _=>Pd (ak rfl) rfl) (fun h=>nomatch h)) k
theorem aI:FnScope ["_law_pen_here", "_law_thing", "_law_parts", "_law_owner", "_law_bad", "_law_key", "_law_base", "_law_worse"] ["_law_pen_here"] (defScope dF):=by walk_at "S"
theorem nN (T:Txt K mg D) (TB:pe K mg base):gG P w K mg base 8 D.dH D.eY ["_law_pen_here"] (aV K A9):=by
 refine Fun.pA T.dO aI ?_ ?_
 walk_at "A2"
 walk_at "P"
 have tP:=@HU K
 have hW:=eU hx
 refine ⟨_,(pss_cons (ps_set (i:=1) aI.nd rfl (Or.inl rfl) (cY (cz (P:=P) (w:=w) T TB :) (hr.mono (by decide)) ay T.cE T.aG.kp (T.aG.binds (ps:=["_law_pen_here", "_law_some"]) (by walk_at "n2")) .nil (pa_cons (pv 0) (pa_cons (cI (pa_cons pe_non (pa_cons pe_int (pa_cons pe_bl (pa_cons pe_str (pa_cons (cI pa_nil) (pa_cons (pe_tup pa_nil) (pa_cons (cI (pa_cons (pe_tup (pa_cons pe_str (pa_cons pe_int pa_nil))) pa_nil)) (pa_cons (pe_tup (pa_cons (pe_tup (pa_cons pe_str (pa_cons pe_int pa_nil))) pa_nil)) (pa_cons (nj T.lH (ie (P:=P) (w:=w) T TB :) (hr.mono (by decide)) (takes_of (E:=E) rfl rfl rfl rfl) T.oR (DJ (ps:=["self", "parts"]) T.eL (by walk_at "bkq0")) (pa_cons pe_dnewK pa_nil) pk_nil) pa_nil)))))))))) pa_nil))))
  (pss_cons (ps_if (pt_cmpR qo (cY (gh (P:=P) (w:=w) T TB :) (hr.mono (by decide)) ay T.fR T.bF.kp (T.bF.binds (ps:=["_law_thing"]) (by walk_at "n1")) .nil (pa_cons (pv 1) pa_nil)) pe_str (nomark _)) (pss_one (ps_ret pe_bl)) pss_nil)
  (pss_cons (ps_set (i:=2) aI.nd rfl (Or.inl rfl) (pe_callTy (call_dictP rfl) (by rfl) T.mX (by decide +kernel) (pa_cons (gT (own:=[("_law_owner",3)]) (g:=(gName 3)) (tt:=tYes) rfl aI.nd (pi_list (cY (lK (P:=P) (w:=w) T TB :) (hr.mono (by decide)) ay T.ji T.dj.kp (T.dj.binds (ps:=["_law_pen_here", "_law_many"]) (by walk_at "n2")) .nil (pa_cons (pv 0) (pa_cons pe_int pa_nil)))) (blkOk_by (own:=[("_law_owner",3)]) (N:=["_law_pen_here", "_law_thing", "_law_parts", "_law_owner", "_law_bad", "_law_key", "_law_base", "_law_worse"]) (sc:=defScope dF) (by decide +kernel)) (fun _ _ _ _ _=>(pg_name (i:=3) aI.nd rfl (Or.inl rfl))) (fun _ _ _ _ _=>pts_nil) (fun _ _ _ _ _=>(pe_tup (pa_cons (pv 3) (pa_cons pe_int pa_nil))))) pa_nil)))
  (pss_cons (ps_set (i:=4) aI.nd rfl (Or.inl rfl) (pe_callTy call_dictD (by rfl) T.mX (by decide +kernel) (pa_cons (pv 2) pa_nil)))
  (pss_cons (ps_dput (hu_of hr.room) (pv 4) (cY (cz (P:=P) (w:=w) T TB :) (hr.mono (by decide)) ay T.cE T.aG.kp (T.aG.binds (ps:=["_law_pen_here", "_law_some"]) (by walk_at "n2")) .nil (pa_cons (pv 0) (pa_cons (pe_callTy (call_listD rfl) (by rfl) T.ye (by decide +kernel) (pa_cons (pv 2) pa_nil)) pa_nil))) (cY (cz (P:=P) (w:=w) T TB :) (hr.mono (by decide)) ay T.cE T.aG.kp (T.aG.binds (ps:=["_law_pen_here", "_law_some"]) (by walk_at "n2")) .nil (pa_cons (pv 0) (pa_cons (cI (pa_cons pe_int (pa_cons pe_int (pa_cons (pe_un un_neg pe_int) (pa_cons pe_non (pa_cons pe_bl (pa_cons pe_bl (pa_cons pe_str (pa_cons (pe_tup (pa_cons pe_int pa_nil)) (pa_cons (cI pa_nil) (pa_cons (pe_op qm pe_int pe_int) pa_nil))))))))))) pa_nil))) rfl)
  (pss_cons (ps_if (PW.pt (pw_or (pt_cmp (pc_notN (cY (gh (P:=P) (w:=w) T TB :) (hr.mono (by decide)) ay T.fR T.bF.kp (T.bF.binds (ps:=["_law_thing"]) (by walk_at "n1")) .nil (pa_cons (pv 2) pa_nil))) rfl) (pw_or1 (pt_cmpR qo (cY (gh (P:=P) (w:=w) T TB :) (hr.mono (by decide)) ay T.fR T.bF.kp (T.bF.binds (ps:=["_law_thing"]) (by walk_at "n1")) .nil (pa_cons (pv 4) pa_nil)) pe_str (nomark _))))) (pss_one (ps_ret pe_bl)) pss_nil)
  (pss_cons (ps_set (i:=5) aI.nd rfl (Or.inl rfl) (cY (cz (P:=P) (w:=w) T TB :) (hr.mono (by decide)) ay T.cE T.aG.kp (T.aG.binds (ps:=["_law_pen_here", "_law_some"]) (by walk_at "n2")) .nil (pa_cons (pv 0) (pa_cons (cI (pa_cons pe_str (pa_cons pe_str (pa_cons pe_str (pa_cons pe_str (pa_cons pe_non (pa_cons pe_int (pa_cons pe_bl (pa_cons (pe_tup (pa_cons pe_int pa_nil)) (pa_cons pe_str pa_nil)))))))))) pa_nil))))
  (pss_cons (mw (passes_of rfl) rfl (pi_list (cI (pa_cons (pv 2) (pa_cons (pv 4) (pa_cons pe_dnewK pa_nil))))) (pg_name (i:=6) aI.nd rfl (Or.inl rfl))
   (pss_cons (ps_set (i:=7) aI.nd rfl (Or.inl rfl) (pe_callTy call_dictD (by rfl) T.mX (by decide +kernel) (pa_cons (pv 6) pa_nil)))
  (pss_cons (Hy (ps_dput (hu_of hr.room) (pv 7) (pv 5) (cY (cz (P:=P) (w:=w) T TB :) (hr.mono (by decide)) ay T.cE T.aG.kp (T.aG.binds (ps:=["_law_pen_here", "_law_some"]) (by walk_at "n2")) .nil (pa_cons (pv 0) (pa_cons (cI (pa_cons pe_int (pa_cons pe_int (pa_cons pe_non pa_nil)))) pa_nil))) rfl) (J5 (Ni hr.room) (pv 7) (pv 5) (cY (cz (P:=P) (w:=w) T TB :) (hr.mono (by decide)) ay T.cE T.aG.kp (T.aG.binds (ps:=["_law_pen_here", "_law_some"]) (by walk_at "n2")) .nil (pa_cons (pv 0) (pa_cons (cI (pa_cons pe_int (pa_cons pe_int (pa_cons pe_non pa_nil)))) pa_nil))) rfl))
  (pss_one (Hy (ps_if (pt_cmpR qo (cY (gh (P:=P) (w:=w) T TB :) (hr.mono (by decide)) ay T.fR T.bF.kp (T.bF.binds (ps:=["_law_thing"]) (by walk_at "n1")) .nil (pa_cons (pv 7) pa_nil)) pe_str (nomark _)) (pss_one (ps_ret pe_bl)) pss_nil) (ps_if (pt_cmpR qo (cY (gh (P:=P) (w:=w) T TB :) (hr.mono (by decide)) ay T.fR T.bF.kp (T.bF.binds (ps:=["_law_thing"]) (by walk_at "n1")) .nil (pa_cons (pv 7) pa_nil)) pe_str (nomark _)) (pss_one (ps_ret pe_bl)) pss_nil))))))
  (pss_one (ps_ret pe_bl)))))))))),?_⟩
 walk_at "F"
 refine ⟨_,(az (bU (dg aB (fun _=>.nil) (af ah (af (eO (af qp (af av (af j6 (af aS (af (eO ai) (af (fq ai) (af (eO (af (fq (af aS (af av ai))) ai)) (af (fq (af (fq (af aS (af av ai))) ai)) (af (nB hW tP (af xC ai) ai) ai)))))))))) ai))) aH)
  (az (cJ (gY (bN iE (dg aB (fun _=>.nil) (af ah ai)) aS)) (aU j6) bE)
  (az (bU (cM uN (af (jn (iX (dg aB (fun _=>.nil) (af ah (af av ai)))) (bM (by decide)) gy (fq (af ah (af av ai)))) ai)) aH)
  (az (bU (cM wD (af ah ai)) aH)
  (az (t8 ah (dg aB (fun _=>.nil) (af ah (af (cM GW (af ah ai)) ai))) (dg aB (fun _=>.nil) (af ah (af (eO (af av (af av (af (qO iF av) (af qp (af j6 (af j6 (af aS (af (fq (af av ai)) (af (eO ai) (af (bN rX av av) ai))))))))))) ai))))
  (az (xS (i:=4) (cJ (BF (fW (Jd (dg aB (fun _=>.nil) (af ah ai)))) (gY (bN iE (dg aB (fun _=>.nil) (af ah ai)) aS))) (aU j6) bE))
  (az (bU (dg aB (fun _=>.nil) (af ah (af (eO (af aS (af aS (af aS (af aS (af qp (af av (af j6 (af (fq (af av ai)) (af aS ai)))))))))) ai))) aH)
  (az (qq (iX (eO (af ah (af ah (af xC ai))))) aH
   (az (bU (cM wD (af ah ai)) aH)
  (az (Ci (t8 ah ah (dg aB (fun _=>.nil) (af ah (af (eO (af av (af av (af qp ai)))) ai)))) (J9 (i:=7) ah (dg aB (fun _=>.nil) (af ah (af (eO (af av (af av (af qp ai)))) ai)))))
  (Ci (xS (i:=7) (cJ (gY (bN iE (dg aB (fun _=>.nil) (af ah ai)) aS)) (aU j6) bE)) (cJ (gY (bN iE (dg aB (fun _=>.nil) (af ah ai)) aS)) (aU j6) bE)))))
  (aU j6))))))))),?_⟩
 walk_at "C"
 obtain ⟨p,n,rfl,hp,hn,k⟩:=h
 have Wc:v9 10 (50:Int):=⟨by decide,4,by unfold Sz;decide,by decide⟩
 have SV:kZ []:=⟨fun t h=>(nomatch h),by simp,by simp⟩
 refine tK (oH (n:=n) (xs:=[.non,.int 0,.bl true,.str (Str.ofString "a"),.lst [],.tup [],.lst [.tup [.str (Str.ofString "a"),.int 1]],.tup [.tup [.str (Str.ofString "a"),.int 1]],zv D.ff (qY []) []]) rfl (eS (aj aF (aj aF (aj aF (aj aF (aj (eS aA (by decide)) (aj (j8 aA (by decide)) (aj (eS (aj (j8 (aj aF (aj aF aA)) (by decide)) aA) (by decide)) (aj (j8 (aj (j8 (aj aF (aj aF aA)) (by decide)) aA) (by decide)) (aj (Cv (ts:=[]) t9 (by simp [kg]) SV) aA))))))))) (by show 9≤sizeLine;decide)) hp (by omega) (by show 0<9;decide) (by show 9≤1000000;decide) fun v hv=>?_)
 have kv:∀ μ':Mu,r7 K μ' v∧isT "dict" v=false:=by
  intro μ'
  simp only [List.mem_cons,List.not_mem_nil,or_false] at hv
  rcases hv with rfl |rfl |rfl |rfl |rfl |rfl |rfl |rfl |rfl
  ·exact ⟨by constructor,rfl⟩
  ·exact ⟨by constructor,rfl⟩
  ·exact ⟨by constructor,rfl⟩
  ·exact ⟨by constructor,rfl⟩
  ·exact ⟨by constructor,rfl⟩
  ·exact ⟨by constructor,rfl⟩
  ·exact ⟨by constructor,rfl⟩
  ·exact ⟨by constructor,rfl⟩
  ·exact ⟨.own T.jH ⟨_,rfl⟩,rfl⟩
 refine fY (aY (fK (uI (pC (aj (ak rfl) aA) fun q' x' k'=>⟨v,rfl,.inr ⟨Str.ofString "parts",fun x C hx=>.parts (kv _).1 (kv P0.μ).2,k'⟩⟩) aF)) (by simp)) ?_
 refine tK (NT (b9 (g_ (b9 ⟨_,rfl,b9 (aF _ ⟨p,n+1,3,rfl,aq,by omega,by decide,by decide,fun zs hz hA=>⟨_,rfl,?_,?_⟩⟩)⟩))))
 ·rw [List.length_map]
  have:zs.length=3:=by omega
  rw [this]
  decide
 rw [aO]
 have l3:zs.length=3:=by omega
 refine Gq (fun x=>Dt.tup [x,.int 1]) (fun x hx q' k'=>(j8 (aj (ak rfl) (aj aF aA)) (by show 2≤sizeLine;decide)) _ k') ?_
 rw [List.map_map]
 generalize hts:zs.map (fun z=>(z,(1:Int)))=ts
 have kz:ts.map (·.1)=zs:=by rw [← hts,List.map_map];exact List.map_id' zs
 refine ⟨_,nR ts,rfl,?_,?_⟩
 ·have:=AW ts
  rw [← hts,List.map_map] at this
  rw [← hts]
  exact this
 have NW:(ts.map (·.1)).Nodup:=by rw [kz];exact hA.1
 rw [pq (uQ NW)]
 have Uw:ts.length=3:=by rw [← hts,List.length_map];exact l3
 have SW:∀ t∈ts,bO (.str t.1)=true:=fun t ht=>hA.name _ (by rw [← kz];exact List.mem_map_of_mem ht)
 have hT:kZ ts:=⟨fun t ht=>⟨SW t ht,by
  rw [← hts] at ht
  obtain ⟨z,_,rfl⟩:=eX ht
  exact (by decide:fB (.int 1) 9=true)⟩,NW,by omega⟩
 generalize hn1:n+1+1+zs.length=n1
 have SY:n1≤n+6:=by omega
 refine tK (NT (b9 ⟨_,rfl,_,_,rfl,rfl,fun pl hpl=>?_⟩))
 have ne:p≠pl:=fun z=>by rw [← z,aq] at hpl;cases hpl
 have H7:P0.μ pl=none:=by rw [aX ne.symm] at hpl;exact hpl
 refine vJ (oH (n:=n1) (xs:=[.int 0,.int 10,.int (-10),.non,.bl true,.bl false,.str (Str.ofString "1"),.tup [.int 1],.lst [],.int (10 ^ (50:Int).toNat)]) rfl (eS (aj aF (aj aF (aj (sd aF) (aj aF (aj aF (aj aF (aj aF (aj (j8 (aj aF aA) (by decide)) (aj (eS aA (by decide)) (aj (qR aF aF Wc) aA)))))))))) (by decide)) (by rw [aX ne];exact aq) (by omega) (by decide) (by decide) fun b hb=>?_)
 rw [iH ne.symm,aO]
 have bb:fB b 9=false∧∀ μ':Mu,r7 K μ' b:=by
  simp only [List.mem_cons,List.not_mem_nil,or_false] at hb
  rcases hb with rfl |rfl |rfl |rfl |rfl |rfl |rfl |rfl |rfl |rfl
  ·exact ⟨by decide,fun _=>by constructor⟩
  ·exact ⟨by decide,fun _=>by constructor⟩
  ·exact ⟨by decide,fun _=>by constructor⟩
  ·exact ⟨rfl,fun _=>by constructor⟩
  ·exact ⟨rfl,fun _=>by constructor⟩
  ·exact ⟨rfl,fun _=>by constructor⟩
  ·exact ⟨rfl,fun _=>by constructor⟩
  ·exact ⟨rfl,fun _=>by constructor⟩
  ·exact ⟨rfl,fun _=>by constructor⟩
  ·exact ⟨by decide +kernel,fun _=>by constructor⟩
 refine ⟨_,rfl,JS (n:=n1+1) (ms:=zs) rfl (dN (G7 (ak rfl) rfl) (by rw [xZ,← kz,List.map_map];rfl)) (by rw [aX ne];exact aq) (by omega) (by omega) (by omega) fun z hz2=>⟨pl,nR ts,.inr z,rfl,?_,rfl,?_,?_⟩⟩
 ·rw [aX ne.symm]
  exact aq
 ·unfold nR
  rw [List.length_map,Uw]
  decide
 have mz:z∈ts.map (·.1):=by rw [kz];exact hz2
 rw [Nu mz,iH ne.symm,aO,aO]
 generalize PR:ts.map (fun t=>(t.1,if t.1=z then b else Dt.int t.2))=us
 have ku:us.map (·.1)=ts.map (·.1):=by rw [← PR,List.map_map];rfl
 have nu:us.length=3:=by rw [← PR,List.length_map];exact Uw
 have Ux:∀ u∈us,bO (.str u.1)=true:=fun u hu=>by
  rw [← PR] at hu
  obtain ⟨t,ht,rfl⟩:=eX hu
  exact SW t ht
 have We:∀ u∈us,∀ μ':Mu,r7 K μ' u.2:=fun u hu μ'=>by
  rw [← PR] at hu
  obtain ⟨t,ht,rfl⟩:=eX hu
  show r7 K μ' (if t.1=z then b else Dt.int t.2)
  split
  ·exact bb.2 μ'
  ·constructor
 have pb:(us.all fun u=>fB u.2 9)=false:=by
  rw [List.all_eq_false]
  obtain ⟨t,ht,e⟩:=eX mz
  refine ⟨(t.1,b),?_,by rw [bb.1];decide⟩
  rw [← PR]
  exact List.mem_map.mpr ⟨t,ht,by rw [if_pos e]⟩
 refine JK rfl aq rfl ?_
 rw [gz (by rw [aX ne.symm];exact H7)]
 refine fY (AN (aY (fK (JJ (pC (aj (ak rfl) aA) fun q' x' k'=>⟨_,rfl,.inl ⟨ts,.inl rfl,hT,k'⟩⟩) rfl)) rfl) (aY (fK (uI (pC (aj (ak rfl) aA) fun q' x' k'=>⟨_,rfl,.inr ⟨Str.ofString "part",fun x C hx=>.part (.inl rfl) (by rw [ku];exact NW) (by omega) Ux We pb,k'⟩⟩) aF)) (by simp))) ?_
 refine tK (oH (n:=n1+2) (xs:=[.str Str.empty,.str (Str.ofString "A"),.str (Str.ofString "abcdefghi"),.str (Str.ofString "a b"),.non,.int 0,.bl true,.tup [.int 1],.str (Str.ofString "a1")]) rfl (eS (aj aF (aj aF (aj aF (aj aF (aj aF (aj aF (aj aF (aj (j8 (aj aF aA) (by decide)) (aj aF aA))))))))) (by decide)) aq (by omega) (by decide) (by decide) fun y hy=>?_)
 rw [aO]
 have ky:(∃ s,y=.str s∧bO (.str s)=false∧s.length≤sizeLine)∨Nf y∧bO y=false∧∀ μ':Mu,r7 K μ' y:=by
  simp only [List.mem_cons,List.not_mem_nil,or_false] at hy
  rcases hy with rfl |rfl |rfl |rfl |rfl |rfl |rfl |rfl |rfl
  ·exact .inl ⟨_,rfl,by decide +kernel,by decide +kernel⟩
  ·exact .inl ⟨_,rfl,by decide +kernel,by decide +kernel⟩
  ·exact .inl ⟨_,rfl,by decide +kernel,by decide +kernel⟩
  ·exact .inl ⟨_,rfl,by decide +kernel,by decide +kernel⟩
  ·exact .inr ⟨.inl rfl,rfl,fun _=>by constructor⟩
  ·exact .inr ⟨.inr (.inr (.inl ⟨0,rfl⟩)),rfl,fun _=>by constructor⟩
  ·exact .inr ⟨.inr (.inl ⟨true,rfl⟩),rfl,fun _=>by constructor⟩
  ·exact .inr ⟨.inr (.inr (.inr ⟨[1],rfl⟩)),rfl,fun _=>by constructor⟩
  ·exact .inl ⟨_,rfl,by decide +kernel,by decide +kernel⟩
 refine vJ (Ca (B9 (eS (ds:=[.dct (nR ts),.dct (uf us),.dct []]) (aj (ak rfl) (aj (ak rfl) (aj t9 aA))) (by show 3≤sizeLine;decide))) ?_)
 refine uH (fun i ρ μ=>μ=aJ P0.μ p (.jD (n1+2+1+i))∧∃ w3 w6 w7,ρ=[some (.raw (.ref p)),some v,some (.dct (nR ts)),w3,some (.dct (uf us)),some y,w6,w7]) ⟨rfl,_,_,_,rfl⟩ ?_ ?_
 ·rintro i x ρ μ ⟨rfl,w3,w6,w7,rfl⟩ hx
  have hi:i<3:=(List.getElem?_eq_some_iff.mp hx).1
  have hb2:∃ vs:List (Str×Dt),x=.dct (uf vs)∧vs.length≤3∧∀ u∈vs,bO (.str u.1)=true:=by
   have m:=List.mem_of_getElem? hx
   simp only [List.mem_cons,List.not_mem_nil,or_false] at m
   rcases m with rfl |rfl |rfl
   ·exact ⟨_,by rw [Pw],by rw [List.length_map];omega,fun u hu=>by
     obtain ⟨t,ht,rfl⟩:=eX hu
     exact SW t ht⟩
   ·exact ⟨us,rfl,by omega,Ux⟩
   ·exact ⟨[],rfl,by simp,fun u hu=>(nomatch hu)⟩
  obtain ⟨vs,rfl,lv,nv⟩:=hb2
  refine tK (NT (b9 ⟨_,rfl,_,_,rfl,rfl,fun pw QO=>?_⟩))
  have nw:p≠pw:=fun z=>by rw [← z,aq] at QO;cases QO
  have PU:P0.μ pw=none:=by rw [aX nw.symm] at QO;exact QO
  have LH:60≤sizeLine:=by decide
  rcases ky with ⟨s,rfl,bs,ls⟩|⟨oy,Wf,Wg⟩
  ·refine vJ (.inl (oH (n:=n1+2+1+i) (xs:=[.int 1,.int 0,.non]) rfl (eS (aj aF (aj aF (aj aF aA))) (by decide)) (by rw [aX nw];exact aq) (by omega) (by decide) (by decide) fun w hw=>⟨_,rfl,_,rfl,pw,uf vs,.inr s,rfl,by rw [aX nw.symm];exact aq,rfl,by unfold uf;rw [List.length_map];omega,?_⟩))
   rw [HP (fun u hu e=>by have:=nv u hu;rw [e] at this;rw [this] at bs;cases bs),iH nw.symm,aO,aO]
   refine .inl (JK rfl aq rfl ?_)
   rw [gz (by rw [aX nw.symm];exact PU)]
   refine xP (aY (fK (uI (pC (aj (ak rfl) aA) fun q' x' k'=>⟨_,rfl,.inr ⟨Str.ofString "account",fun x C hx=>.acc (.inl rfl) (fun u hu=>?_) (by rw [List.length_append];simp;omega) ?_,k'⟩⟩) aF)) (by simp)) ⟨by rw [Nat.add_assoc],_,_,_,rfl⟩
   ·rcases List.mem_append.mp hu with hu |hu
    ·exact jE (nv u hu)
    ·rw [List.mem_singleton.mp hu]
     exact ls
   ·rw [List.all_append,Bool.and_eq_false_iff]
    exact .inr (by simp [bs])
  ·refine vJ (.inr ⟨pw,rfl,oH (n:=n1+2+1+i) (xs:=[.int 1,.int 0,.non]) rfl (eS (aj aF (aj aF (aj aF aA))) (by decide)) (by rw [aX nw];exact aq) (by omega) (by decide) (by decide) fun w hw=>⟨_,rfl,uf vs,by rw [aX nw.symm];exact aq,fun q hq=>?_,by unfold uf;rw [List.length_map];omega,oy,?_⟩⟩)
   ·unfold uf at hq
    obtain ⟨u,_,rfl⟩:=eX hq
    exact ⟨_,rfl⟩
   rw [iH nw.symm,aO,gz (by rw [aX nw.symm];exact PU)]
   refine .inr (xP (aY (fK (uI (pC (aj (ak rfl) aA) fun q' x' k'=>⟨_,rfl,.inr ⟨Str.ofString "account",fun x C hx=>.mix (fun d hd μ'=>?_) (fun z hz=>?_) (by rw [List.length_append];unfold uf;simp;omega) ?_,k'⟩⟩) aF)) (by simp)) ⟨by rw [Nat.add_assoc],_,_,_,rfl⟩)
   ·rcases List.mem_append.mp hd with hd |hd
    ·rw [q8] at hd
     obtain ⟨u,_,rfl⟩:=eX hd
     exact .str _
    ·rw [List.mem_singleton.mp hd]
     exact Wg μ'
   ·rcases List.mem_append.mp hz with hd |hd
    ·rw [q8] at hd
     obtain ⟨u,hu,e⟩:=eX hd
     cases e
     exact jE (nv u hu)
    ·rw [List.mem_singleton] at hd
     rcases oy with rfl |⟨_,rfl⟩|⟨_,rfl⟩|⟨_,rfl⟩ <;> cases hd
   ·rw [List.all_append,Bool.and_eq_false_iff]
    exact .inr (by simp [Wf])
 ·rintro ρ μ ⟨rfl,w3,w6,w7,rfl⟩
  dsimp only
  exact jf aF (k (n1+2+1+3) (by omega) (by omega))
theorem pD:FnScope ["value"] ["value"] (defScope gw):=by walk_at "S"
theorem dY (T:Txt K mg D) (TB:pe K mg base):gG P w K mg base 3 D.ez D.gx ["value"] (aV K (qT K D.ao)):=by
 refine Fun.pA T.b8 pD ?_ ?_
 walk_at "A1"
 walk_at "P"
 refine ⟨_,(pss_one (ps_ret (pe_or (pe_callB iO (by rfl) T.bG (by decide +kernel) (pa_cons (pv 0) (pa_cons (pe_glob (v:=.ref D.ao) rfl T.cF rfl) pa_nil))) (pe_one (cY (oX (P:=P) (w:=w) T TB :) (hr.mono (by decide)) ay T.fS T.fC.kp (T.fC.binds (ps:=["value"]) (by walk_at "n1")) .nil (pa_cons (pv 0) pa_nil)))))),?_⟩
 walk_at "F"
 refine ⟨_,(aU (Mq (cM cZ (af ah (af j7 ai))) (dg aB (fun _=>.nil) (af ah ai)))),?_⟩
 walk_at "C"
 obtain ⟨v,rfl,hv⟩:=h
 rcases hv with ⟨h,k⟩|⟨h,k⟩
 ·exact ⟨_,rfl,uG T.aM h ⟨_,rfl,iteT k⟩⟩
 ·exact ⟨_,rfl,wk T.aM h ⟨_,rfl,iteF ⟨_,rfl,v,rfl,.Gk h,k⟩⟩⟩
theorem yo:FnScope ["number"] ["number"] (defScope nV):=by walk_at "S"
theorem jC (T:Txt K mg D) (TB:pe K mg base):gG P w K mg base 2 D.kH D.nY ["number"] (aV K (Gx K D.ao)):=by
 refine Fun.pA T.cU yo ?_ ?_
 walk_at "A2"
 walk_at "P"
 refine ⟨_,(pss_cons (ps_if (pt_val (pe_callB iO (by rfl) T.bG (by decide +kernel) (pa_cons (pv 0) (pa_cons (pe_glob (v:=.ref D.ao) rfl T.cF rfl) pa_nil)))) (pss_one (ps_ret (pe_tup (pa_cons (pe_fld (pv 0) rfl) (pa_cons (pe_fld (pv 0) rfl) pa_nil))))) pss_nil)
  (pss_one (ps_ret (pe_tup (pa_cons (pv 0) (pa_cons pe_int pa_nil)))))),?_⟩
 walk_at "F"
 refine ⟨_,(az (cJ (fW (cM cZ (af ah (af j7 ai)))) (aU (fq (af (fz (T.aM).cls T.cu ah) (af (fz (T.aM).cls T.bw ah) ai)))) bE)
  (aU (fq (af ah (af av ai))))),?_⟩
 walk_at "C"
 obtain ⟨v,r,rfl,hv,k⟩:=h
 rcases hv with ⟨i,rfl,rfl⟩|rfl
 ·have e:=Dh i
  unfold TZ at k
  rw [e.1,e.2] at k
  exact ⟨_,rfl,wk T.aM rfl ⟨_,rfl,iteF ⟨_,rfl,by show 2≤sizeLine;decide,k⟩⟩⟩
 ·exact ⟨_,rfl,uG T.aM kN ⟨_,rfl,iteT ⟨_,rfl,_,_,rfl,rfl,_,rfl,_,_,rfl,rfl,by show 2≤sizeLine;decide,k⟩⟩⟩
theorem yq:FnScope ["self", "other"] ["self", "other"] (defScope nW):=by walk_at "S"
theorem rF (T:Txt K mg D) (TB:pe K mg base):gG P w K mg base 4 D.iV D.nZ ["self", "other"] (aV K (spEq K D.ao)):=by
 refine Fun.pA T.kO yq ?_ ?_
 walk_at "A2"
 walk_at "P"
 have tP:=@DH K
 refine ⟨_,(pss_cons (ps_if (pt_not (pt_val (rS (pe_glob (v:=.ref D.ao) rfl T.cF rfl) T.iJ T.cP (dY (P:=P) (w:=w) T TB :) (hr.mono (by decide)) ay (DK (ps:=["value"]) T.b8 (by walk_at "bkq1")) (pa_cons (pv 1) pa_nil) pk_nil))) (pss_one (ps_ret pe_bl)) pss_nil)
  (pss_one (ps_ret (pe_cmpR (op_eqD hr.room.units) (pe_tup (pa_cons (pe_fld (pv 0) rfl) (pa_cons (pe_fld (pv 0) rfl) pa_nil))) (cY (jC (P:=P) (w:=w) T TB :) (hr.mono (by decide)) ay T.i6 T.cU.kp (T.cU.binds (ps:=["number"]) (by walk_at "n1")) .nil (pa_cons (pv 1) pa_nil)) (nomark _))))),?_⟩
 walk_at "F"
 refine ⟨_,(az (cJ (fu (fW (wg aB tP (af ah ai) ai))) (aU j6) bE)
  (aU (bN C0 (fq (af (fz (T.aM).cls T.cu ah) (af (fz (T.aM).cls T.bw ah) ai))) (dg aB (fun _=>.nil) (af ah ai))))),?_⟩
 walk_at "C"
 obtain ⟨y,a,rfl,hy⟩:=h
 rcases hy with ⟨b,hy,k⟩|⟨h,hw,k⟩
 ·have num:∀ (q':DQ) (x':Addr→List (Str×Dt)→Mu→Prop),q' (.bl true) P0.μ→qT K D.ao [y] P0.μ q' x':=by
   intro q' x' hq
   rcases hy with ⟨i,rfl,_⟩|rfl
   ·exact ⟨_,rfl,.inr ⟨rfl,hq⟩⟩
   ·exact ⟨_,rfl,.inl ⟨kN,hq⟩⟩
  refine ⟨_,rfl,rfl,rfl,num _ _ ⟨_,rfl,iteF ?_⟩⟩
  refine ⟨_,rfl,_,_,rfl,rfl,_,rfl,_,_,rfl,rfl,by show 2≤sizeLine;decide,_,rfl,y,b,rfl,hy,?_⟩
  refine ⟨.tuple [.int a.num,.int a.den],.tuple [.int b.num,.int b.den],.tup (.cons (.int _) (.cons (.int _) .nil)),.tup (.cons (.int _) (.cons (.int _) .nil)),rfl,rfl,?_⟩
  have e:PyData.eqv (.tuple [.int a.num,.int a.den]) (.tuple [.int b.num,.int b.den])=decide (a=b):=by
   have e1:PyData.eqv (.tuple [.int a.num,.int a.den]) (.tuple [.int b.num,.int b.den])=decide (a.num=b.num∧(a.den:Int)=b.den):=by
    by_cases h1:a.num=b.num <;> by_cases h2:(a.den:Int)=b.den <;> simp [PyData.eqv,PyData.eqvAll,h1,h2]
   rw [e1]
   congr 1
   exact propext ⟨fun h=>Rat.ext h.1 (by omega),fun h=>by rw [h];exact ⟨rfl,rfl⟩⟩
  rw [e]
  exact k
 ·refine ⟨_,rfl,rfl,rfl,y,rfl,.inr ⟨h,_,rfl,?_⟩⟩
  rw [hw]
  exact iteT k
theorem kQ:FnScope ["one", "other"] ["one", "other"] (defScope iy):=by walk_at "S"
theorem rG (T:Txt K mg D) (TB:pe K mg base):gG P w K mg base 2 D.fF D.iA ["one", "other"] (aV K O7):=by
 refine Fun.pA T.fQ kQ ?_ ?_
 walk_at "A2"
 walk_at "P"
 refine ⟨_,(pss_cons (ps_while (passes_of rfl) (pt_cmpR op_gt (pv 1) pe_int (nomark _)) (pss_one (ps_par (i:=0) (j:=1) (by rfl) kQ.nd rfl rfl (by decide) rfl rfl (pa_cons (pv 1) (pa_cons (pe_op oz (pv 0) (pv 1)) pa_nil)) (by rfl))))
  (pss_one (ps_ret (pv 0)))),?_⟩
 walk_at "F"
 refine ⟨_,(az (F8 (gY (bN yT ah av)) (F7 (af ah (af (bN CY ah ah) ai))))
  (aU ah)),?_⟩
 walk_at "C"
 obtain ⟨a,b,rfl,ha,hb,k⟩:=h
 obtain ⟨a,rfl⟩:∃ n:Nat,a=n:=⟨a.toNat,by omega⟩
 obtain ⟨b,rfl⟩:∃ n:Nat,b=n:=⟨b.toNat,by omega⟩
 refine ⟨fun m ρ μ'=>∃ i j:Nat,ρ=[some (.int i),some (.int j)]∧μ'=P0.μ∧m=j∧Nat.gcd i j=Nat.gcd a b,⟨_,a,b,rfl,rfl,rfl,rfl⟩,?_⟩
 rintro m ρ μ' ⟨i,j,rfl,rfl,rfl,hg⟩
 refine ⟨_,rfl,_,_,rfl,rfl,_,rfl,ite2 (fun hc=>?_) (fun hc=>?_)⟩
 ·have hj:0<m:=by simpa using hc
  refine ⟨fun ρ' μ1=>∃ i' j':Nat,ρ'=[some (.int i'),some (.int j')]∧μ1=P0.μ∧j'<m∧Nat.gcd i' j'=Nat.gcd a b,?_,?_⟩
  ·rintro ρ' μ1 ⟨i',j',rfl,rfl,hl,hg'⟩
   exact ⟨j',hl,i',j',rfl,rfl,rfl,hg'⟩
  ·refine ⟨_,rfl,_,rfl,_,rfl,_,_,rfl,rfl,by omega,_,_,rfl,m,i % m,?_,rfl,Nat.mod_lt _ hj,?_⟩
   ·have e:(i:Int).fmod (m:Int)=((i % m:Nat):Int):=by
     rw [Int.fmod_eq_emod_of_nonneg _ (by omega)]
     rfl
    show [some (Dt.int m),some (Dt.int ((i:Int).fmod (m:Int)))]=_
    rw [e]
   ·rw [← hg,Nat.gcd_comm i m,Nat.gcd_rec m i,Nat.gcd_comm]
 ·have hj:m=0:=by simp at hc;omega
  subst hj
  rw [Nat.gcd_zero_right] at hg
  subst hg
  exact ⟨_,rfl,k⟩
theorem ig:FnScope ["self", "top", "bottom", "value", "divisor"] ["self", "top", "bottom"] (defScope f6):=by walk_at "S"
theorem dc (T:Txt K mg D) (TB:pe K mg base):gG P w K mg base 3 D.iM D.kU ["self", "top", "bottom"] (aV K (BV K D.ao D.cQ D.eo)):=by
 refine FunD.pA T.cg ig (fun vs H Q E h=>lD h fun ds μ q x h=>?_) (fun cdv A outer s H vs Q E hr h=>?_)
 ·replace h:=h.ex
  obtain ⟨a,v1,v2,rfl,ha,h1,h2,hz,ky,kn,ka,kb⟩:=h
  rfl
 ·obtain ⟨P0,ds,q,x,rfl,hS,hv,h,hq,hx⟩:=h
  have hW:=eU hx
  refine ⟨_,(pss_cons (mw (passes_of rfl) rfl (pi_tup (pe_tup (pa_cons (pv 1) (pa_cons (pv 2) pa_nil)))) (pg_name (i:=3) ig.nd rfl (Or.inl rfl))
    (pss_one (ps_if (pt_not (pt_val (cY (oX (P:=P) (w:=w) T TB :) (hr.mono (by decide)) ay T.fS T.fC.kp (T.fC.binds (ps:=["value"]) (by walk_at "n1")) .nil (pa_cons (pv 3) pa_nil)))) (pss_one (ps_raise rfl (takes_of (E:=E) rfl rfl rfl rfl) (mq (f := "value") (m5 (P:=P) (w:=w) T :) hr (by decide) rfl (pa_cons (pv 3) pa_nil)))) pss_nil)))
   (pss_cons (ps_if (pt_cmpR L0 (pv 2) pe_int (nomark _)) (pss_one (ps_raise rfl (takes_of (E:=E) rfl rfl rfl rfl) (Mg PySem.F.excBase_ValueError T.rj T.sU T.rm (raises_own T.rq T.rA) rfl))) pss_nil)
   (pss_cons (ps_set (i:=4) ig.nd rfl (Or.inl rfl) (cY (rG (P:=P) (w:=w) T TB :) (hr.mono (by decide)) ay T.lF T.fQ.kp (T.fQ.binds (ps:=["one", "other"]) (by walk_at "n2")) .nil (pa_cons (pe_callB call_abs (by rfl) T.zO (by decide +kernel) (pa_cons (pv 1) pa_nil)) (pa_cons (pe_callB call_abs (by rfl) T.zO (by decide +kernel) (pa_cons (pv 2) pa_nil)) pa_nil))))
   (C8.pss_cut (ps_if (pt_cmpR op_lt (pv 2) pe_int (nomark _)) (pss_one (ps_set (i:=4) ig.nd rfl (Or.inl rfl) (pe_un un_neg (pv 4)))) pss_nil)
   (pss_cons (ps_fld (pv 0) (pe_op qM (pv 1) (pv 4)) rfl)
   (pss_one (ps_fld (pv 0) (pe_op qM (pv 2) (pv 4)) rfl))))))),?_⟩
  walk_at "F"
  refine ⟨_,(az (qq (BK (fq (af ah (af ah ai)))) aH
    (cJ (fu (fW (dg aB (fun _=>.nil) (af ah ai)))) (fJ hW (af ah ai)) bE))
   (az (cJ (gY (bN CZ ah av)) (C6 hW) bE)
   (az (bU (dg aB (fun _=>.nil) (af (cM sN (af ah ai)) (af (cM sN (af ah ai)) ai))) aH)
   (My (cJ (gY (bN FN ah av)) (bU (qO iF ah) aH) bE)
   (az (t7 T.aM.cls T.cu ah (bN uz ah ah))
   (t7 T.aM.cls T.bw ah (bN uz ah ah))))))),?_⟩
  walk_at "C"
  replace h:=h.ex
  obtain ⟨a,v1,v2,rfl,ha,h1,h2,hz,ky,kn,ka,kb⟩:=h
  refine ⟨_,rfl,_,rfl,by show 2≤sizeLine;decide,[v1,v2],rfl,uH (fun i ρ μ'=>μ'=P0.μ∧(∃ w,ρ=[some (.raw (.ref a)),some v1,some v2,w,none])∧(0<i→jh v1=true)∧(1<i→jh v2=true)) ⟨rfl,⟨_,rfl⟩,by omega,by omega⟩ ?_ ?_⟩
  ·rintro i y ρ μ' ⟨rfl,⟨w,rfl⟩,w1,w2⟩ hx
   have hi2:i<2:=(List.getElem?_eq_some_iff.mp hx).1
   refine ⟨_,rfl,y,rfl,?_,_,rfl,?_⟩
   ·rcases i with _ |_ |i
    ·cases hx;exact h1
    ·cases hx;exact h2
    ·omega
   ·cases e:jh y with
    |true=>
     refine iteF ⟨rfl,⟨_,rfl⟩,fun _=>?_,fun _=>?_⟩
     ·rcases i with _ |i
      ·cases hx;exact e
      ·exact w1 (by omega)
     ·rcases i with _ |_ |i
      ·omega
      ·cases hx;exact e
      ·omega
    |false=>
     refine iteT ⟨_,rfl,_,rfl,?_⟩
     rcases i with _ |_ |i
     ·cases hx;exact ka e
     ·cases hx;exact kb (w1 (by decide)) e
     ·omega
  ·rintro ρ μ' ⟨rfl,⟨w,rfl⟩,w1,w2⟩
   have W1:=w1 (by show 0<2;decide)
   have W2:=w2 (by show 1<2;decide)
   obtain ⟨t,rfl⟩:∃ t,v1=.int t:=by cases v1 <;> first |exact ⟨_,rfl⟩|cases W1
   obtain ⟨b,rfl⟩:∃ t,v2=.int t:=by cases v2 <;> first |exact ⟨_,rfl⟩|cases W2
   have hsz:Sz 7900 b:=hz b rfl
   refine ⟨_,rfl,MJ rfl ⟨_,rfl,ite2 (fun h0=>?_) (fun h0=>?_)⟩⟩
   ·have:b=0:=by simpa using h0
    exact kn W1 (by rw [this])
   ·have hb:b≠0:=by simpa using h0
    have eg:Int.gcd (if t<0 then -t else t) (if b<0 then -b else b)=Int.gcd t b:=by split <;> split <;> simp
    refine ⟨_,rfl,_,rfl,_,rfl,_,rfl,_,_,rfl,by split <;> omega,by split <;> omega,?_⟩
    rw [eg]
    have g0:=xQ (t:=t) hb
    have gs:Sz 7900 (Int.gcd t b:Int):=hsz.le (MM hb)
    refine ⟨fun ρ' PV=>∃ d:Int,ρ'=[some (.raw (.ref a)),some (.int t),some (.int b),w,some (.int d)]∧PV=P0.μ∧d≠0∧Sz 7900 d∧qD t b=(t.fdiv d,b.fdiv d),?_,?_⟩
    ·refine ⟨_,rfl,_,_,rfl,rfl,_,rfl,ite2 (fun hn=>?_) (fun hn=>?_)⟩
     ·have hn':b<0:=by simpa using hn
      exact ⟨_,rfl,_,rfl,_,rfl,rfl,by omega,gs.neg,by unfold qD;rw [if_pos hn']⟩
     ·have hn':¬ b<0:=by simpa using hn
      exact ⟨_,rfl,rfl,by omega,gs,by unfold qD;rw [if_neg hn']⟩
    ·rintro ρ' PV ⟨d,rfl,rfl,hd,ds,en⟩
     refine ⟨_,rfl,_,rfl,_,_,rfl,rfl,⟨hd,7900,ds,by decide,by decide⟩,_,rfl,a,_,rfl,ha,by decide,?_⟩
     refine ⟨_,rfl,_,rfl,_,_,rfl,rfl,⟨hd,7900,ds,by decide,by decide⟩,_,rfl,a,_,rfl,aq,by show 1<1000;decide,?_⟩
     have VM:(b:Rat)≠0:=by exact_mod_cast hb
     obtain ⟨r,hr⟩:∃ r:Rat,(t:Rat)=r*(b:Rat):=⟨t / b,by grind⟩
     have e2:=qS hb hr
     rw [en] at e2
     have e3:t.fdiv d=r.num:=congrArg Prod.fst e2
     have e4:b.fdiv d=(r.den:Int):=congrArg Prod.snd e2
     rw [aO]
     show q .non (aJ P0.μ a (.ins D.ao [("top",.int (t.fdiv d)),("bottom",.int (b.fdiv d))]))
     rw [e3,e4]
     exact ky t b rfl rfl hb r hr
theorem vP:FnScope ["self"] ["self"] (defScope lU):=by walk_at "S"
theorem vQ (T:Txt K mg D) (TB:pe K mg base):gG P w K mg base 5 D.gJ D.l6 ["self"] (aV K (K3 D.ao)):=by
 refine Fun.pA T.mR vP ?_ ?_
 walk_at "A1"
 walk_at "P"
 obtain ⟨NX,b0⟩:=HW (ps:=["self", "top", "bottom"]) T.cg (by walk_at "bdd0")
 have tP:=@HV K
 have hW:=eU hx
 refine ⟨_,(pss_one (ps_ret (nj T.gI (dc (P:=P) (w:=w) T TB :) (hr.mono (by decide)) (takes_of (E:=E) rfl rfl rfl rfl) T.cF b0 (pa_cons (pe_un un_neg (pe_fld (pv 0) rfl)) (pa_cons (pe_fld (pv 0) rfl) pa_nil)) pk_nil))),?_⟩
 walk_at "F"
 refine ⟨_,(aU (nB hW tP (af (qO iF (fz (T.aM).cls T.cu ah)) (af (fz (T.aM).cls T.bw ah) ai)) ai)),?_⟩
 walk_at "C"
 obtain ⟨a,rfl,za,k⟩:=h
 have na:=jg a
 walk_at "go"
 refine uJ (Int.ne_of_gt (den_pos a)) za.den ?_ k
 simp only [Rat.intCast_neg]
 grind
theorem vj:FnScope ["self"] ["self"] (defScope kR):=by walk_at "S"
theorem vm (T:Txt K mg D) (TB:pe K mg base):gG P w K mg base 2 D.f7 D.kW ["self"] (aV K (Gy D.ao)):=by
 refine Fun.pA T.k8 vj ?_ ?_
 walk_at "A1"
 walk_at "P"
 refine ⟨_,(pss_one (ps_ret (pe_callTy call_bool1 (by rfl) T.Bb (by decide +kernel) (pa_cons (pe_cmpR qo (pe_fld (pv 0) rfl) pe_int (nomark _)) pa_nil)))),?_⟩
 walk_at "F"
 refine ⟨_,(aU (cM vG (af (bN iE (fz (T.aM).cls T.cu ah) av) ai))),?_⟩
 walk_at "C"
 obtain ⟨a,rfl,k⟩:=h
 refine ⟨_,rfl,_,_,rfl,rfl,AM rfl (.inr ⟨_,rfl,?_⟩)⟩
 have e:(!decide (a.num=0))=decide (a≠0):=by
  rw [← decide_not]
  congr 1
  exact propext (not_congr Rat.num_eq_zero)
 rw [e]
 exact k
theorem m6:FnScope ["number", "top", "bottom"] ["number"] (defScope nX):=by walk_at "S"
theorem yr (T:Txt K mg D) (TB:pe K mg base):gG P w K mg base 5 D.kI D.oh ["number"] (aV K (RH K D.ao D.cQ)):=by
 refine Fun.pA T.oN m6 ?_ ?_
 walk_at "A1"
 walk_at "P"
 obtain ⟨NX,b0⟩:=HW (ps:=["self", "top", "bottom"]) T.cg (by walk_at "bdd0")
 have tP:=@DH K
 have Nz:=@HV K
 have hW:=eU hx
 refine ⟨_,(pss_cons (ps_if (pt_not (pt_val (rS (pe_glob (v:=.ref D.ao) rfl T.cF rfl) T.iJ T.cP (dY (P:=P) (w:=w) T TB :) (hr.mono (by decide)) ay (DK (ps:=["value"]) T.b8 (by walk_at "bkq1")) (pa_cons (pv 0) pa_nil) pk_nil))) (pss_one (ps_raise rfl (takes_of (E:=E) rfl rfl rfl rfl) (mq (f := "value") (m5 (P:=P) (w:=w) T :) hr (by decide) rfl (pa_cons (pv 0) pa_nil)))) pss_nil)
  (pss_cons (ps_asg (cY (jC (P:=P) (w:=w) T TB :) (hr.mono (by decide)) ay T.i6 T.cU.kp (T.cU.binds (ps:=["number"]) (by walk_at "n1")) .nil (pa_cons (pv 0) pa_nil)) (pg_tup rfl (pgs_cons (pg_name (i:=1) m6.nd rfl (Or.inl rfl)) (pgs_cons (pg_name (i:=2) m6.nd rfl (Or.inl rfl)) pgs_nil))))
  (pss_one (ps_ret (nj T.gI (dc (P:=P) (w:=w) T TB :) (hr.mono (by decide)) (takes_of (E:=E) rfl rfl rfl rfl) T.cF b0 (pa_cons (pv 1) (pa_cons (pv 2) pa_nil)) pk_nil))))),?_⟩
 walk_at "F"
 refine ⟨_,(az (cJ (fu (fW (wg aB tP (af ah ai) ai))) (fJ hW (af ah ai)) bE)
  (az (bU (dg aB (fun _=>.nil) (af ah ai)) (t6 (iW aH (iW aH tZ))))
  (aU (nB hW Nz (af ah (af ah ai)) ai)))),?_⟩
 walk_at "C"
 obtain ⟨v,rfl,hv⟩:=h
 rcases hv with ⟨r,hn,zr,k⟩|⟨h,hw,k⟩
 ·have num:∀ (q':DQ) (x':Addr→List (Str×Dt)→Mu→Prop),q' (.bl true) P0.μ→qT K D.ao [v] P0.μ q' x':=by
   intro q' x' hq
   rcases hn with ⟨i,rfl,_⟩|rfl
   ·exact ⟨_,rfl,.inr ⟨rfl,hq⟩⟩
   ·exact ⟨_,rfl,.inl ⟨kN,hq⟩⟩
  refine ⟨_,rfl,rfl,rfl,num _ _ ⟨_,rfl,iteF ?_⟩⟩
  exact ⟨_,rfl,v,r,rfl,hn,_,rfl,rfl,_,_,rfl,_,_,rfl,rfl,_,rfl,_,rfl,rfl,rfl,uJ (Int.ne_of_gt (den_pos r)) zr.den (jg r) k⟩
 ·exact ⟨_,rfl,rfl,rfl,v,rfl,.inr ⟨h,_,rfl,by rw [hw];exact iteT ⟨_,rfl,_,rfl,k⟩⟩⟩
theorem ef:FnScope ["told", "others", "key"] ["told"] (defScope eG):=by walk_at "S"
theorem lM (T:Txt K mg D) (TB:pe K mg base):gG P w K mg base 2 D.gn D.i9 ["told"] (aV K HC):=by
 refine Fun.pA T.dw ef ?_ ?_
 walk_at "A2"
 walk_at "P"
 refine ⟨_,(pss_cons (FD (ps_setLc (i:=1) (own:=[("key",2)]) (g:=(gName 2)) rfl ef.nd rfl rfl (sw_true rfl rfl rfl (by decide +kernel)) (pi_keys (nC (pv 0))) (blkOk_by (own:=[("key",2)]) (N:=["told", "others", "key"]) (sc:=defScope eG) (by decide +kernel)) (fun _ _ _ _ _=>(pg_name (i:=2) ef.nd rfl (Or.inl rfl))) (fun _ _ _ _ _=>(pts_one (pt_not (pt_val (pe_callB (zF (K:=K) rfl) (by rfl) T.bG (by decide +kernel) (pa_cons (pv 2) (pa_cons (pe_bltn (v:=.ty "str") (by rfl) T.u6 (by decide +kernel) rfl) pa_nil))))))) (fun _ _ _ _ _=>(pv 2))))
  (pss_one (ps_ret (cI (StX.pa_star (pv 1) (StX.pa_star (pe_callB cr_sortedS (by rfl) T.u5 (by decide +kernel) (pa_cons (gT (own:=[("key",2)]) (g:=(gName 2)) rfl ef.nd (pi_keys (nC (pv 0))) (blkOk_by (own:=[("key",2)]) (N:=["told", "others", "key"]) (sc:=defScope eG) (by decide +kernel)) (fun _ _ _ _ _=>(pg_name (i:=2) ef.nd rfl (Or.inl rfl))) (fun _ _ _ _ _=>(pts_one (pt_val (pe_callB (zF (K:=K) rfl) (by rfl) T.bG (by decide +kernel) (pa_cons (pv 2) (pa_cons (pe_bltn (v:=.ty "str") (by rfl) T.u6 (by decide +kernel) rfl) pa_nil)))))) (fun _ _ _ _ _=>(pe_callTy SkE.call_str_str (by rfl) T.u6 (by decide +kernel) (pa_cons (pv 2) pa_nil)))) pa_nil)) pa_nil)))))),?_⟩
 walk_at "F"
 refine ⟨_,(az (bU (jn (f9 ah) (bM (by decide)) (fu (fW (cM cZ (af ah (af j7 ai))))) ah) aH)
  (aU (eO (BC ah (BC (cM uO (af (jn (f9 ah) (bM (by decide)) (fW (cM cZ (af ah (af j7 ai)))) (cM mJ (af ah ai))) ai)) ai))))),?_⟩
 walk_at "C"
 obtain ⟨kvs,zs,rfl,hz,hl,k⟩:=h
 have IT:∀ {ρ:Ev} {μ:Mu},ρ[0]? = some (some (.dct kvs))→Vi (uM (kX 0)) ρ μ (zs.map Dt.str):=fun h=>by
  have e:kvs.map (fun kv=>wA kv.1)=zs.map Dt.str:=by
   have:=congrArg (List.map wA) hz
   rw [List.map_map,List.map_map] at this
   exact this
  rw [← e]
  exact mL (ak h)
 have zl:zs.length≤sizeLine:=Nat.le_trans hl (by decide)
 refine qu (x:=.lst []) (dN (G9 Dt.str Dt.str (fun _=>false) _ (IT rfl) zl (fun z _=>g7) (fun z _=>aY (dW (fK (uP (by decide) (ak rfl) (.str _)))) rfl) (fun z _ e=>nomatch e)) (by simp)) ?_
 refine jf (x:=.lst ((iY zs).map Dt.str)) (eS (Kc (xs:=[]) (ak rfl) rfl (HA (xs:=(iY zs).map Dt.str) (Hh (ss:=zs) (dN (G9 Dt.str Dt.str (fun _=>true) _ (IT rfl) zl (fun z _=>g7) (fun z _=>fK (uP (by decide) (ak rfl) (.str _))) (fun z _ _=>B7 (ak rfl))) (by rw [List.filter_eq_self.mpr fun _ _=>rfl])) (by omega)) rfl)) ?_) k
 show ((iY zs).map Dt.str).length≤sizeLine
 rw [List.length_map,(cK zs).length_eq]
 exact zl
theorem eK:FnScope ["told", "key", "found", "account", "amount"] ["told"] (defScope jI):=by walk_at "S"
theorem tQ (T:Txt K mg D) (TB:pe K mg base):gG P w K mg base 6 D.gM D.jQ ["told"] (aV K (DC D.ao)):=by
 refine Fun.pA T.g8 eK ?_ ?_
 walk_at "A1"
 walk_at "P"
 have tP:=@DH K
 have Nz:=@DH K
 have hW:=eU hx
 refine ⟨_,(pss_cons (ps_if (pt_cmp (pc_isN (pv 0)) rfl) (pss_one (ps_ret pe_dnewK)) pss_nil)
  (pss_cons (ps_if (pt_not (pt_val (pe_callB iO (by rfl) T.bG (by decide +kernel) (pa_cons (pv 0) (pa_cons (pe_bltn (v:=.ty "dict") (by rfl) T.mX (by decide +kernel) rfl) pa_nil))))) (pss_one (ps_raise rfl (takes_of (E:=E) rfl rfl rfl rfl) (mq (f := "value") (Bf (P:=P) (w:=w) T :) hr (by decide) rfl (pa_cons (pv 0) pa_nil)))) pss_nil)
  (pss_cons (mw (passes_of rfl) rfl (pi_list (cY (lM (P:=P) (w:=w) T TB :) (hr.mono (by decide)) ay T.jj T.dw.kp (T.dw.binds (ps:=["told"]) (by walk_at "n1")) .nil (pa_cons (pv 0) pa_nil))) (pg_name (i:=1) eK.nd rfl (Or.inl rfl))
   (pss_one (ps_if (pt_not (pt_val (cY (kE (P:=P) (w:=w) T TB :) (hr.mono (by decide)) ay T.jG T.di.kp (T.di.binds (ps:=["value"]) (by walk_at "n1")) .nil (pa_cons (pv 1) pa_nil)))) (pss_one (ps_raise rfl (takes_of (E:=E) rfl rfl rfl rfl) (mq (f := "value") (vg (P:=P) (w:=w) T :) hr (by decide) rfl (pa_cons (pv 1) pa_nil)))) pss_nil)))
  (pss_cons (ps_set (i:=2) eK.nd rfl (Or.inl rfl) pe_dnewK)
  (pss_cons (mw (passes_of rfl) rfl (pi_list (cY (lM (P:=P) (w:=w) T TB :) (hr.mono (by decide)) ay T.jj T.dw.kp (T.dw.binds (ps:=["told"]) (by walk_at "n1")) .nil (pa_cons (pv 0) pa_nil))) (pg_name (i:=3) eK.nd rfl (Or.inl rfl))
   (pss_cons (ps_if (pt_not (pt_val (rS (pe_glob (v:=.ref D.ao) rfl T.cF rfl) T.iJ T.cP (dY (P:=P) (w:=w) T TB :) (hr.mono (by decide)) ay (DK (ps:=["value"]) T.b8 (by walk_at "bkq1")) (pa_cons (pe_dget (hu_of hr.room) (pv 0) (pv 3) (fun _ _=>rfl)) pa_nil) pk_nil))) (pss_one (ps_raise rfl (takes_of (E:=E) rfl rfl rfl rfl) (mq (f := "value") (m5 (P:=P) (w:=w) T :) hr (by decide) rfl (pa_cons (pe_dget (hu_of hr.room) (pv 0) (pv 3) (fun _ _=>rfl)) pa_nil)))) pss_nil)
  (pss_cons (ps_set (i:=4) eK.nd rfl (Or.inl rfl) (rS (pe_glob (v:=.ref D.ao) rfl T.cF rfl) T.iJ T.rB (yr (P:=P) (w:=w) T TB :) (hr.mono (by decide)) (takes_of (E:=E) rfl rfl rfl rfl) (DK (ps:=["number"]) T.oN (by walk_at "bkq1")) (pa_cons (pe_dget (hu_of hr.room) (pv 0) (pv 3) (fun _ _=>rfl)) pa_nil) pk_nil))
  (pss_one (ps_if (pt_truthR (pv 4) (I5 T.oU T.oV (vm (P:=P) (w:=w) T TB :) (hr.mono (by decide)) (T.k8.binds (ps:=["self"]) (by walk_at "n1"))) (by intro _;rfl)) (pss_one (ps_dput (hu_of hr.room) (pv 2) (pv 3) (pv 4) rfl)) pss_nil)))))
  (pss_one (ps_ret (pv 2)))))))),?_⟩
 walk_at "F"
 refine ⟨_,(az (cJ (fW (FT ah)) (aU xC) bE)
  (az (cJ (fu (fW (cM cZ (af ah (af j7 ai))))) (fJ hW (af ah ai)) bE)
  (az (qq (iX (dg aB (fun _=>.nil) (af ah ai))) aH
   (cJ (fu (fW (dg aB (fun _=>.nil) (af ah ai)))) (fJ hW (af ah ai)) bE))
  (az (bU FL aH)
  (az (qq (iX (dg aB (fun _=>.nil) (af ah ai))) aH
   (az (cJ (fu (fW (wg aB tP (af (jy ah ah) ai) ai))) (fJ hW (af (jy ah ah) ai)) bE)
  (az (bU (wg hW Nz (af (jy ah ah) ai) ai) aH)
  (cJ (C4 ah) (t8 ah ah ah) bE))))
  (xS (i:=2) (aU ah))))))),?_⟩
 walk_at "C"
 obtain ⟨v,rfl,h⟩:=h
 rcases h with ⟨rfl,k⟩|⟨us,rfl,hu,k⟩
 ·exact zh (fK (b:=true) (xT (b:=true) (ak rfl) rfl)) t9 k
 have KK:∀ {ρ:Ev} {μ:Mu} {w:XQ},ρ[0]? = some (some (.dct (Cj us)))→Vi (xN (dG HC [] w (bD (kX 0) fk))) ρ μ ((iY (us.map (·.1))).map Dt.str):=fun h=>B9 (pC (aj (ak h) aA) fun q' x' k'=>⟨Cj us,us.map (·.1),rfl,by unfold Cj;rw [List.map_map,List.map_map];rfl,by rw [List.length_map];exact Nat.le_trans hu.len (by decide),k'⟩)
 have PY:∀ z∈iY (us.map (·.1)),bO (.str z)=true:=fun z hz=>by
  obtain ⟨u,m,rfl⟩:=eX ((cK _).mem_iff.mp hz)
  exact hu.nm u m
 refine fY (fK (b:=false) (xT (b:=false) (ak rfl) rfl)) ?_
 refine fY (aY (dW (fK (uP (by decide) (ak rfl) (.dct _)))) rfl) ?_
 refine vJ (Dw (as:=iY (us.map (·.1))) Dt.str (fun _=>false) (j:=1) rfl (KK rfl) (fun E1 z m _ nx=>?_) (fun _ w1=>?_))
 ·exact xP (aY (dW (fK (pC (d:=.bl true) (aj (ak rfl) aA) fun q' x' k'=>⟨_,rfl,.str _,(fun y e=>by cases e;exact jE (PY z m)),by rw [PY z m];exact k'⟩))) rfl) (nx rfl)
 refine tK (t:=FJ) (fun p hp=>?_)
 have nd:(iY (us.map (·.1))).Nodup:=(cK _).nodup_iff.mpr hu.nd
 refine vJ (Ca (KK rfl) (uH (fun i ρ μ=>∃ w3 w4,ρ=[some (.dct (Cj us)),w1,some (.raw (.ref p)),w3,w4]∧μ=aJ P0.μ p (.dct (Dz D.ao (zI (DB us) ((iY (us.map (·.1))).take i))))) ⟨_,_,rfl,rfl⟩ ?_ ?_))
 ·rintro i x ρ μ ⟨w3,w4,rfl,rfl⟩ hx
  rw [List.getElem?_map] at hx
  obtain ⟨z,hz,rfl⟩:=Option.map_eq_some_iff.mp hx
  obtain ⟨u,QS,eu⟩:=eX ((cK _).mem_iff.mp (List.mem_of_getElem? hz))
  obtain ⟨eF,eV⟩:=Co hu.nd QS
  rw [eu] at eF eV
  have GT:∀ {ρ:Ev} {μ:Mu},ρ[0]? = some (some (.dct (Cj us)))→ρ[3]? = some (some (.str z))→Ve (FW (kX 0) (kX 3)) ρ μ u.2.1:=fun h0 h3=>mK (k:=.inr z) (ak h0) (ak h3) rfl rfl eV
  have ln:(Dz D.ao (zI (DB us) ((iY (us.map (·.1))).take i))).length<sizeLine:=by
   unfold Dz zI
   rw [List.length_map,List.length_map]
   refine Nat.lt_of_le_of_lt (List.length_filter_le _ _) (Nat.lt_of_le_of_lt (List.take_sublist _ _).length_le ?_)
   rw [(cK _).length_eq,List.length_map]
   exact Nat.lt_of_le_of_lt hu.len (by decide)
  dsimp only
  refine fY (aY (dW (fK (G4 (d:=.bl true) (aj (GT rfl rfl) aA) aA fun q' x' k'=>Nn (hu.nq u QS) q' x' k'))) rfl) ?_
  refine qu (x:=aQ D.ao (DB us z)) (G4 (aj (GT rfl rfl) aA) aA fun q' x' k'=>⟨u.2.1,rfl,.inl ⟨u.2.2,hu.nq u QS,hu.zr u QS,by rw [← eF];exact k'⟩⟩) ?_
  by_cases e0:DB us z=0
  ·refine xP (aY (Cq (ak rfl)) (by simp [e0])) ⟨_,_,rfl,?_⟩
   rw [wN hz,if_neg (fun n=>n e0),List.append_nil]
  ·refine ML (aY (Cq (ak rfl)) (by simp [e0])) (Ka (k:=.inr z) (d:=aQ D.ao (DB us z)) (ak rfl) (ak rfl) (ak rfl) aq rfl ln ?_)
   refine ⟨_,_,rfl,?_⟩
   rw [aO,wN hz,if_pos e0,ya (A5 nd hz _)]
   unfold Dz
   rw [List.map_append]
   rfl
 ·rintro ρ μ ⟨w3,w4,rfl,rfl⟩
  rw [List.length_map,List.take_length]
  refine JK rfl aq rfl ?_
  rw [gz hp]
  exact jf (ak rfl) k
theorem yt:FnScope ["self", "values"] ["self", "values"] (defScope iS):=by walk_at "S"
theorem yu (T:Txt K mg D) (TB:pe K mg base):gG P w K mg base 7 D.kJ D.oj ["self", "values"] (aV K (HD D.je D.ao)):=by
 refine FunD.pA T.oO yt ?_ ?_
 walk_at "A3"
 walk_at "P"
 have hW:=eU hx
 refine ⟨_,(pss_one (ps_fld (pv 0) (cY (tQ (P:=P) (w:=w) T TB :) (hr.mono (by decide)) (takes_of (E:=E) rfl rfl rfl rfl) T.oQ T.g8.kp (T.g8.binds (ps:=["told"]) (by walk_at "n1")) .nil (pa_cons (pv 1) pa_nil)) rfl)),?_⟩
 walk_at "F"
 refine ⟨_,(t7 T.yh.cls T.kr ah (dg hW (fun _=>.nil) (af ah ai))),?_⟩
 walk_at "C"
 obtain ⟨a,v,gs,rfl,ha,hv,k⟩:=h
 exact Nj (pC (d:=.dct (Dz D.ao gs)) (aj (ak rfl) aA) fun q' x' k'=>⟨v,rfl,by cases hv with
  |non=>exact .inl ⟨rfl,k'⟩
  |tl us h=>exact .inr ⟨us,rfl,h,k'⟩⟩) rfl ha k (by show 0<1000;decide)
theorem iR:FnScope ["self", "account", "number"] ["self"] (defScope jq):=by walk_at "S"
theorem vR (T:Txt K mg D) (TB:pe K mg base):gG P w K mg base 7 D.gQ D.l7 ["self"] (aV K (Ho D.ff (kg D))):=by
 refine Fun.pA T.mS iR ?_ ?_
 walk_at "A3"
 walk_at "P"
 have tP:=@HU K
 have hW:=eU hx
 refine ⟨_,(pss_one (ps_ret (nj T.lH (ie (P:=P) (w:=w) T TB :) (hr.mono (by decide)) (takes_of (E:=E) rfl rfl rfl rfl) T.oR (DJ (ps:=["self", "parts"]) T.eL (by walk_at "bkq0")) (pa_cons (G3 (own:=[("account",1),("number",2)]) (g:=(gTup K 2 (gCons (gName 1) (gCons (gName 2) gNil)))) (tt:=tYes) rfl iR.nd (pi_items (nC (pe_fld (pv 0) rfl))) (blkOk_by (own:=[("account",1),("number",2)]) (N:=["self", "account", "number"]) (sc:=defScope jq) (by decide +kernel)) (fun _ _ _ _ _=>(pg_tup rfl (pgs_cons (pg_name (i:=1) iR.nd rfl (Or.inl rfl)) (pgs_cons (pg_name (i:=2) iR.nd rfl (Or.inl rfl)) pgs_nil)))) (fun _ _ _ _ _=>pts_nil) (fun _ _ _ _ _=>(pv 1)) (fun _ _ _ _ _=>(pe_op op_sub pe_int (pv 2)))) pa_nil) pk_nil))),?_⟩
 walk_at "F"
 refine ⟨_,(aU (nB hW tP (af (K8 (wC (xW (p:=(·∈kg D)) fun C hC=>(fz ((rC T C hC)).cls (g9 T C hC) ah))) (BN (qQ (bM (by decide)) (qQ (bM (by decide)) BL))) gy ah (bN rW av ah)) ai) ai)),?_⟩
 walk_at "C"
 obtain ⟨C,ts,r,rfl,hC,ht,k⟩:=h
 refine Pz (ts:=kc ts) (dN (Hf (fun t:Str×Int=>.tup [.str t.1,.int t.2]) (fun t=>.str t.1) (fun t=>.int (0 - t.2)) (fun t=>.inr t.1) _ (mO (zp (B6 C hC (AV (ak rfl) rfl rfl))) (by unfold nR;rw [List.map_map];rfl)) (Nat.le_trans ht.2.2 (by decide)) (fun t m=>xY) (fun t m=>⟨ak rfl,wm aF (ak rfl),rfl⟩) ?_) (by rw [Nd])) (by simp [kg]) ht.neg k
 exact Dl ht.2.1
theorem k9:FnScope ["self", "other", "top", "bottom"] ["self", "other"] (defScope lV):=by walk_at "S"
theorem vS (T:Txt K mg D) (TB:pe K mg base):gG P w K mg base 5 D.ju D.l8 ["self", "other"] (aV K (zg D.ao (· * ·))):=by
 refine Fun.pA T.mU k9 ?_ ?_
 walk_at "A3"
 walk_at "P"
 obtain ⟨NX,b0⟩:=HW (ps:=["self", "top", "bottom"]) T.cg (by walk_at "bdd0")
 have tP:=@DH K
 have Nz:=@HV K
 have hW:=eU hx
 refine ⟨_,(pss_cons (ps_if (pt_not (pt_val (rS (pe_glob (v:=.ref D.ao) rfl T.cF rfl) T.iJ T.cP (dY (P:=P) (w:=w) T TB :) (hr.mono (by decide)) ay (DK (ps:=["value"]) T.b8 (by walk_at "bkq1")) (pa_cons (pv 1) pa_nil) pk_nil))) (pss_one (ps_ret Fy)) pss_nil)
  (pss_cons (ps_asg (cY (jC (P:=P) (w:=w) T TB :) (hr.mono (by decide)) ay T.i6 T.cU.kp (T.cU.binds (ps:=["number"]) (by walk_at "n1")) .nil (pa_cons (pv 1) pa_nil)) (pg_tup rfl (pgs_cons (pg_name (i:=2) k9.nd rfl (Or.inl rfl)) (pgs_cons (pg_name (i:=3) k9.nd rfl (Or.inl rfl)) pgs_nil))))
  (pss_one (ps_ret (nj T.gI (dc (P:=P) (w:=w) T TB :) (hr.mono (by decide)) (takes_of (E:=E) rfl rfl rfl rfl) T.cF b0 (pa_cons (pe_op eN (pe_fld (pv 0) rfl) (pv 2)) (pa_cons (pe_op eN (pe_fld (pv 0) rfl) (pv 3)) pa_nil)) pk_nil))))),?_⟩
 walk_at "F"
 refine ⟨_,(az (cJ (fu (fW (wg aB tP (af ah ai) ai))) (aU Gn) bE)
  (az (bU (dg aB (fun _=>.nil) (af ah ai)) (t6 (iW aH (iW aH tZ))))
  (aU (nB hW Nz (af (bN d9 (fz (T.aM).cls T.cu ah) ah) (af (bN d9 (fz (T.aM).cls T.bw ah) ah) ai)) ai)))),?_⟩
 walk_at "C"
 obtain ⟨y,a,b,rfl,hy,za,zb,k⟩:=h
 have m1:jZ a.num b.den:=⟨3900,3900,za.num,zb.den,by decide⟩
 have m2:jZ b.num a.den:=⟨3900,3900,zb.num,za.den,by decide⟩
 have m3:jZ (a.den:Int) b.den:=⟨3900,3900,za.den,zb.den,by decide⟩
 have m4:jZ a.num b.num:=⟨3900,3900,za.num,zb.num,by decide⟩
 have ne:(a.den:Int)*b.den≠0:=Int.ne_of_gt (Int.mul_pos (den_pos a) (den_pos b))
 have zn:Sz 7900 ((a.den:Int)*b.den):=(za.den.mul zb.den).mono (by decide)
 have na:=jg a
 have nb:=jg b
 have num:∀ (q':DQ) (x':Addr→List (Str×Dt)→Mu→Prop),q' (.bl true) P0.μ→qT K D.ao [y] P0.μ q' x':=by
  intro q' x' hq
  rcases hy with ⟨i,rfl,_⟩|rfl
  ·exact ⟨_,rfl,.inr ⟨rfl,hq⟩⟩
  ·exact ⟨_,rfl,.inl ⟨kN,hq⟩⟩
 refine ⟨_,rfl,rfl,rfl,num _ _ ⟨_,rfl,iteF ?_⟩⟩
 refine ⟨_,rfl,y,b,rfl,hy,?_⟩
 walk_at "go"
 refine uJ ne zn ?_ k
 simp only [Rat.intCast_add,Rat.intCast_sub,Rat.intCast_mul,Rat.intCast_neg]
 grind
theorem lg:FnScope ["self", "other", "top", "bottom"] ["self", "other"] (defScope lW):=by walk_at "S"
theorem vU (T:Txt K mg D) (TB:pe K mg base):gG P w K mg base 5 D.jv D.l9 ["self", "other"] (aV K (zg D.ao (· + ·))):=by
 refine Fun.pA T.mV lg ?_ ?_
 walk_at "A3"
 walk_at "P"
 obtain ⟨NX,b0⟩:=HW (ps:=["self", "top", "bottom"]) T.cg (by walk_at "bdd0")
 have tP:=@HV K
 have hW:=eU hx
 refine ⟨_,(pss_cons (ps_asg (cY (jC (P:=P) (w:=w) T TB :) (hr.mono (by decide)) ay T.i6 T.cU.kp (T.cU.binds (ps:=["number"]) (by walk_at "n1")) .nil (pa_cons (pv 1) pa_nil)) (pg_tup rfl (pgs_cons (pg_name (i:=2) lg.nd rfl (Or.inl rfl)) (pgs_cons (pg_name (i:=3) lg.nd rfl (Or.inl rfl)) pgs_nil))))
  (pss_one (ps_ret (nj T.gI (dc (P:=P) (w:=w) T TB :) (hr.mono (by decide)) (takes_of (E:=E) rfl rfl rfl rfl) T.cF b0 (pa_cons (pe_op op_add (pe_op eN (pe_fld (pv 0) rfl) (pv 3)) (pe_op eN (pv 2) (pe_fld (pv 0) rfl))) (pa_cons (pe_op eN (pe_fld (pv 0) rfl) (pv 3)) pa_nil)) pk_nil)))),?_⟩
 walk_at "F"
 refine ⟨_,(az (bU (dg aB (fun _=>.nil) (af ah ai)) (t6 (iW aH (iW aH tZ))))
  (aU (nB hW tP (af (bN rV (bN d9 (fz (T.aM).cls T.cu ah) ah) (bN d9 ah (fz (T.aM).cls T.bw ah))) (af (bN d9 (fz (T.aM).cls T.bw ah) ah) ai)) ai))),?_⟩
 walk_at "C"
 obtain ⟨y,a,b,rfl,hy,za,zb,k⟩:=h
 have m1:jZ a.num b.den:=⟨3900,3900,za.num,zb.den,by decide⟩
 have m2:jZ b.num a.den:=⟨3900,3900,zb.num,za.den,by decide⟩
 have m3:jZ (a.den:Int) b.den:=⟨3900,3900,za.den,zb.den,by decide⟩
 have m4:jZ a.num b.num:=⟨3900,3900,za.num,zb.num,by decide⟩
 have ne:(a.den:Int)*b.den≠0:=Int.ne_of_gt (Int.mul_pos (den_pos a) (den_pos b))
 have zn:Sz 7900 ((a.den:Int)*b.den):=(za.den.mul zb.den).mono (by decide)
 have na:=jg a
 have nb:=jg b
 refine ⟨_,rfl,y,b,rfl,hy,?_⟩
 walk_at "go"
 refine uJ ne zn ?_ k
 simp only [Rat.intCast_add,Rat.intCast_sub,Rat.intCast_mul,Rat.intCast_neg]
 grind
theorem gu:FnScope ["numbers", "found", "number"] ["numbers"] (defScope jJ):=by walk_at "S"
theorem tR (T:Txt K mg D) (TB:pe K mg base):gG P w K mg base 6 D.gR D.jR ["numbers"] (aV K (JF D.ao)):=by
 refine Fun.pA T.kh gu ?_ ?_
 walk_at "A3"
 walk_at "P"
 obtain ⟨NX,b0⟩:=PD (ps:=["self", "top", "bottom"]) T.cg (by walk_at "bdd1")
 have tP:=@PB K
 have hW:=eU hx
 refine ⟨_,(pss_cons (ps_set (i:=1) gu.nd rfl (Or.inl rfl) (nj T.gI (dc (P:=P) (w:=w) T TB :) (hr.mono (by decide)) (takes_of (E:=E) rfl rfl rfl rfl) T.cF b0 (pa_cons pe_int pa_nil) pk_nil))
  (pss_cons (mw (passes_of rfl) rfl (Ot (pi_list (pv 0)) (pi_tup (pv 0))) (pg_name (i:=2) gu.nd rfl (Or.inl rfl))
   (pss_one (ps_set (i:=1) gu.nd rfl (Or.inl rfl) (Fx (Bv IU T.pP T.pQ (vU (P:=P) (w:=w) T TB :) (hr.mono (by decide)) ay (T.mV.binds (ps:=["self", "other"]) (by walk_at "n2"))) (pv 1) (pv 2)))))
  (pss_one (ps_ret (pv 1))))),?_⟩
 walk_at "F"
 refine ⟨_,(az (bU (nB hW tP (af av ai) ai) aH)
  (az (qq (Jr ah) aH
   (bU (xH (BG aB) ah ah) aH))
  (aU ah))),?_⟩
 walk_at "C"
 obtain ⟨v,xs,qs,rfl,hs,hl,hn,zs,zr,k⟩:=h
 have e0:((0:Int):Rat)=(0:Rat)*((1:Int):Rat):=by decide +kernel
 refine ⟨rfl,rfl,uJ (by decide) (Sz.mono (m:=1) (by unfold Sz;decide) (by decide)) e0 ?_⟩
 have body:NQ (iG 2) (F6 (C3 (Jh D.ao (zg D.ao (· + ·)) TJ) (kX 1) (kX 2)) (iG 1)) {nx:=fun ρ μ'=>F3 (kX 1) {nx:=fun x μ'=>q Dt.non μ',rt:=q,bk:=fun _ _=>False,ct:=fun _ _=>False} ρ μ',rt:=q,bk:=fun _ _=>False,ct:=fun _ _=>False} xs [some v,some (aQ D.ao 0),none] P0.μ:=by
  refine uH (fun i ρ μ'=>μ'=P0.μ∧∃ w,ρ=[some v,some (aQ D.ao (j9 (qs.take i))),w]) ⟨rfl,_,rfl⟩ ?_ ?_
  ·rintro i y ρ μ' ⟨rfl,w,rfl⟩ hx
   have hi:i<qs.length:=by rw [← hl];exact (List.getElem?_eq_some_iff.mp hx).1
   have hq:qs[i]? = some qs[i]:=by simp [hi]
   have et:j9 (qs.take (i+1))=j9 (qs.take i)+qs[i]:=by
    unfold j9
    rw [List.take_succ,List.foldl_append]
    simp [hi]
   have hy:=hn i y _ hx hq
   exact ⟨_,rfl,_,rfl,kN,hy.or,y,_,_,rfl,hy,zs i (by omega),zr _ (List.getElem_mem _),⟨rfl,_,by rw [et];rfl⟩⟩
  ·rintro ρ μ' ⟨rfl,w,rfl⟩
   rw [hl,List.take_length]
   exact ⟨_,rfl,k⟩
 cases v with
 |lst ds=>cases hs;exact .inl ⟨_,rfl,_,rfl,body⟩
 |tup ds=>cases hs;exact .inr ⟨_,rfl,_,rfl,body⟩
 |_=>cases hs
theorem tS:FnScope ["self", "account"] ["self", "account"] (defScope jK):=by walk_at "S"
theorem tT (T:Txt K mg D) (TB:pe K mg base):gG P w K mg base 5 D.dZ D.jS ["self", "account"] (aV K (Ck D.je D.ao)):=by
 refine Fun.pA T.ki tS ?_ ?_
 walk_at "A2"
 walk_at "P"
 obtain ⟨NX,b0⟩:=PD (ps:=["self", "top", "bottom"]) T.cg (by walk_at "bdd1")
 have tP:=@PB K
 have hW:=eU hx
 refine ⟨_,(pss_cons (ps_if (pt_not (pt_val (cY (kE (P:=P) (w:=w) T TB :) (hr.mono (by decide)) ay T.jG T.di.kp (T.di.binds (ps:=["value"]) (by walk_at "n1")) .nil (pa_cons (pv 1) pa_nil)))) (pss_one (ps_raise rfl (takes_of (E:=E) rfl rfl rfl rfl) (mq (f := "value") (vg (P:=P) (w:=w) T :) hr (by decide) rfl (pa_cons (pv 1) pa_nil)))) pss_nil)
  (pss_one (ps_ret (pe_dget2 (hu_of hr.room) (pe_fld (pv 0) rfl) (pv 1) (nj T.gI (dc (P:=P) (w:=w) T TB :) (hr.mono (by decide)) (takes_of (E:=E) rfl rfl rfl rfl) T.cF b0 (pa_cons pe_int pa_nil) pk_nil) ⟨by rfl,by rfl,by rfl,by rfl⟩)))),?_⟩
 walk_at "F"
 refine ⟨_,(az (cJ (fu (fW (dg aB (fun _=>.nil) (af ah ai)))) (fJ hW (af ah ai)) bE)
  (aU (zm (fz (T.yh).cls T.kr ah) ah (nB hW tP (af av ai) ai)))),?_⟩
 walk_at "C"
 obtain ⟨gs,z,rfl,hz,k⟩:=h
 refine fY (aY (dW (fK (pC (d:=.bl true) (aj (ak rfl) aA) fun q' x' k'=>⟨_,rfl,.str _,(fun y e=>by cases e;exact jE hz),by rw [hz];exact k'⟩))) rfl) ?_
 exact jf (dN (zo (k:=.inr z) (AV (ak rfl) rfl rfl) (ak rfl) (GG aF (by decide +kernel) (n:=1) z0).run rfl rfl) (HF _ gs z)) k
theorem fV:FnScope ["self", "gaps", "account", "number"] ["self", "gaps"] (defScope gj):=by walk_at "S"
theorem iK (T:Txt K mg D) (TB:pe K mg base):gG P w K mg base 7 D.gq D.jc ["self", "gaps"] (aV K (Kf (kg D) D.je D.ao)):=by
 refine Fun.pA T.eH fV ?_ ?_
 walk_at "A4"
 walk_at "P"
 have tP:=@DH K
 refine ⟨_,(pss_one (ps_ret (rS (pe_glob (v:=.ref D.ao) rfl T.cF rfl) T.iJ T.nE (tR (P:=P) (w:=w) T TB :) (hr.mono (by decide)) ay (DK (ps:=["numbers"]) T.kh (by walk_at "bkq1")) (pa_cons (gT (own:=[("account",2),("number",3)]) (g:=(gTup K 2 (gCons (gName 2) (gCons (gName 3) gNil)))) (tt:=tYes) rfl fV.nd (pi_items (nC (pe_fld (pv 0) rfl))) (blkOk_by (own:=[("account",2),("number",3)]) (N:=["self", "gaps", "account", "number"]) (sc:=defScope gj) (by decide +kernel)) (fun _ _ _ _ _=>(pg_tup rfl (pgs_cons (pg_name (i:=2) fV.nd rfl (Or.inl rfl)) (pgs_cons (pg_name (i:=3) fV.nd rfl (Or.inl rfl)) pgs_nil)))) (fun _ _ _ _ _=>pts_nil) (fun _ _ _ _ _=>(Fx (Bv IV T.pR T.pU (vS (P:=P) (w:=w) T TB :) (hr.mono (by decide)) ay (T.mU.binds (ps:=["self", "other"]) (by walk_at "n2"))) (JM T.nH T.Cy T.nI (tT (P:=P) (w:=w) T TB :) (hr.mono (by decide)) (T.ki.binds (ps:=["self", "account"]) (by walk_at "n2")) rfl (pv 1) (pv 2)) (pv 3)))) pa_nil) pk_nil))),?_⟩
 walk_at "F"
 refine ⟨_,(aU (wg aB tP (af (jn (wC (xW (p:=(·∈kg D)) fun C hC=>(fz ((rC T C hC)).cls (g9 T C hC) ah))) (BN (qQ (bM (by decide)) (qQ (bM (by decide)) BL))) gy (xH (BG aB) (JN ah ah) ah)) ai) ai)),?_⟩
 walk_at "C"
 obtain ⟨C,ts,r,gs,rfl,hC,ht,hg,k⟩:=h
 refine jf (x:=aQ D.ao (DF ts gs)) (G4 (aj (mP (fun t:Str×Int=>Dt.tup [.str t.1,.int t.2]) (fun t=>aQ D.ao (qx gs t.1*(t.2:Rat))) _ (mO (zp (B6 C hC (AV (ak rfl) rfl rfl))) (by unfold nR;rw [List.map_map];rfl)) (Nat.le_trans ht.2.2 (by decide)) (fun t m=>xY) (fun t m=>(Gz (Np (ak rfl) (ak rfl) (ht.1 t m).1 hg.zr (by decide)) (BW rfl (Cp (ht.1 t m).2)) (by decide) (by decide)).run)) aA) aA fun q' x' k'=>⟨_,(yb ts gs).map (aQ D.ao),yb ts gs,rfl,?_,(HH _ _).1,(HH _ _).2,(zJ ht hg).1,(zJ ht hg).2,k'⟩) k
 unfold yb
 rw [List.map_map]
 rfl
theorem lN:FnScope ["_law_pen_here", "_law_top"] ["_law_pen_here"] (defScope i7):=by walk_at "S"
theorem lO (T:Txt K mg D) (TB:pe K mg base):gG P w K mg base 4 D.gr D.jd ["_law_pen_here"] (aV K Kq):=by
 refine Fun.pA T.dD lN ?_ ?_
 walk_at "A2"
 walk_at "P"
 refine ⟨_,(pss_cons (ps_set (i:=1) lN.nd rfl (Or.inl rfl) (cY (cz (P:=P) (w:=w) T TB :) (hr.mono (by decide)) ay T.cE T.aG.kp (T.aG.binds (ps:=["_law_pen_here", "_law_some"]) (by walk_at "n2")) .nil (pa_cons (pv 0) (pa_cons (cI (pa_cons pe_int (pa_cons pe_int (pa_cons (pe_un un_neg pe_int) (pa_cons pe_int (pa_cons (pe_un un_neg pe_int) (pa_cons (pe_op qm pe_int pe_int) (pa_cons (pe_op op_sub (cY (jB (P:=P) (w:=w) T TB :) (hr.mono (by decide)) ay T.gH T.bY.kp (T.bY.binds (ps:=["_law_pen_here", "_law_many"]) (by walk_at "n2")) .nil (pa_cons (pv 0) (pa_cons pe_int pa_nil))) pe_int) pa_nil)))))))) pa_nil))))
  (pss_one (ps_ret (pe_tup (pa_cons (pv 1) (pa_cons (cY (cz (P:=P) (w:=w) T TB :) (hr.mono (by decide)) ay T.cE T.aG.kp (T.aG.binds (ps:=["_law_pen_here", "_law_some"]) (by walk_at "n2")) .nil (pa_cons (pv 0) (pa_cons (cI (pa_cons pe_int (pa_cons pe_int (pa_cons pe_int (pa_cons pe_int (pa_cons pe_int (pa_cons (pe_op op_add (pe_op qm pe_int pe_int) pe_int) pa_nil))))))) pa_nil))) pa_nil)))))),?_⟩
 walk_at "F"
 refine ⟨_,(az (bU (dg aB (fun _=>.nil) (af ah (af (eO (af av (af av (af (qO iF av) (af av (af (qO iF av) (af (bN rX av av) (af (bN rW (dg aB (fun _=>.nil) (af ah (af av ai))) av) ai)))))))) ai))) aH)
  (aU (fq (af ah (af (dg aB (fun _=>.nil) (af ah (af (eO (af av (af av (af av (af av (af av (af (bN rV (bN rX av av) av) ai))))))) ai))) ai))))),?_⟩
 walk_at "C"
 obtain ⟨p,n,rfl,hp,hn,k⟩:=h
 have Uy:v9 10 (29:Int):=⟨by decide,4,by unfold Sz;decide,by decide⟩
 refine tK <|g_ <|b9 ⟨_,rfl,b9 <|R5 <|b9 <|aF _ <|b9 <|aF _ <|b9 <|sd aF _ <|b9 <|aF _ <|b9 <|sd aF _ <|b9 <|qR aF aF Uy _ <|b9 <|T3 <|AQ (n:=n) rfl hp (by omega) (by decide) (by unfold Sz;decide) fun r r0 r1=>⟨r,50,rfl,rfl,(by show 7≤sizeLine;decide),p,_,_,n+1,rfl,aq,by omega,rfl,fun z e=>(nomatch e),(by show 0<7;decide),(by show 7≤1000000;decide),fun d hd=>?_⟩⟩
 rw [aO]
 have hx:∃ t:Int,d=.int t∧Sz 97 t:=by
  simp only [List.mem_cons,List.not_mem_nil,or_false] at hd
  rcases hd with rfl |rfl |rfl |rfl |rfl |rfl |rfl
  ·exact ⟨_,rfl,by unfold Sz;decide⟩
  ·exact ⟨_,rfl,by unfold Sz;decide⟩
  ·exact ⟨_,rfl,by unfold Sz;decide⟩
  ·exact ⟨_,rfl,by unfold Sz;decide⟩
  ·exact ⟨_,rfl,by unfold Sz;decide⟩
  ·exact ⟨_,rfl,by unfold Sz;decide +kernel⟩
  ·exact ⟨_,rfl,by unfold Sz;omega⟩
 obtain ⟨t,rfl,ht⟩:=hx
 refine Pb (b9 ⟨_,rfl,b9 (Cb (n:=n+2) (ms:=[1,1,2,3,7,10 ^ 29+1]) rfl (eS (aj aF (aj aF (aj aF (aj aF (aj aF (aj (wm (qR aF aF Uy) aF) aA)))))) (by decide)) aq (by omega) (by decide) (by decide) fun b hb=>⟨by show 2≤sizeLine;decide,?_⟩)⟩)
 rw [aO]
 refine k (t,b) ⟨ht,?_,?_⟩
 ·show 1≤b
  simp at hb
  rcases hb with rfl |rfl |rfl |rfl |rfl <;> decide
 ·show Sz 97 b
  simp at hb
  rcases hb with rfl |rfl |rfl |rfl |rfl <;> (unfold Sz;decide +kernel)
theorem fE:FnScope ["_law_parts", "_law_told", "_law_top", "_law_bottom", "_law_owner", "_law_one", "_law_two"] ["_law_parts", "_law_told"] (defScope qe):=by walk_at "S"
theorem zV (T:Txt K mg D) (TB:pe K mg base):gG P w K mg base 2 D.mh D.qh ["_law_parts", "_law_told"] (aV K Nr):=by
 refine Fun.pA T.mW fE ?_ ?_
 walk_at "A2"
 walk_at "P"
 refine ⟨_,(pss_cons (IG (i:=2) (j:=3) rfl fE.nd rfl rfl rfl rfl (pa_cons pe_int (pa_cons pe_int pa_nil)))
  (pss_cons (mw (passes_of rfl) rfl (pi_keys (nC (pv 0))) (pg_name (i:=4) fE.nd rfl (Or.inl rfl))
   (pss_cons (ps_asg (pe_dget2 (hu_of hr.room) (pv 1) (pv 4) (pe_tup (pa_cons pe_int (pa_cons pe_int pa_nil))) ⟨by rfl,by rfl,by rfl,by rfl⟩) (pg_tup rfl (pgs_cons (pg_name (i:=5) fE.nd rfl (Or.inl rfl)) (pgs_cons (pg_name (i:=6) fE.nd rfl (Or.inl rfl)) pgs_nil))))
  (pss_cons (ps_set (i:=2) fE.nd rfl (Or.inl rfl) (pe_op op_add (pe_op eN (pv 2) (pv 6)) (pe_op eN (pe_op eN (pe_dget (hu_of hr.room) (pv 0) (pv 4) (fun _ _=>rfl)) (pv 5)) (pv 3))))
  (pss_one (ps_set (i:=3) fE.nd rfl (Or.inl rfl) (pe_op eN (pv 3) (pv 6)))))))
  (pss_one (ps_ret (pe_tup (pa_cons (pv 2) (pa_cons (pv 3) pa_nil))))))),?_⟩
 walk_at "F"
 refine ⟨_,(az (Jp (af av (af av ai)))
  (az (qq (f9 ah) aH
   (az (bU (zm ah ah (fq (af av (af av ai)))) (t6 (iW aH (iW aH tZ))))
  (az (bU (bN rV (bN d9 ah ah) (bN d9 (bN d9 (jy ah ah) ah) ah)) aH)
  (bU (bN d9 ah ah) aH))))
  (aU (fq (af ah (af ah ai)))))),?_⟩
 walk_at "C"
 obtain ⟨ts,fs,rfl,ht,hf,k⟩:=h
 have c4:∀ t∈ts,Sz 4 t.2:=fun t h=>by
  have:=(ht.1 t h).2
  simp [fB] at this
  unfold Sz
  omega
 have IT:∀ {ρ:Ev} {μ:Mu},ρ[0]? = some (some (.dct (nR ts)))→Vi (uM (kX 0)) ρ μ (ts.map fun t=>Dt.str t.1):=fun h=>by
  rw [← xZ]
  exact mL (ak h)
 refine Gv (aj aF (aj aF aA)) ?_
 refine vJ (Ca (IT rfl) ?_)
 refine uH (fun i ρ μ=>μ=P0.μ∧∃ w4 w5 w6,ρ=[some (.dct (nR ts)),some (.dct (yc fs)),some (.int (ee fs (ts.take i)).1),some (.int (ee fs (ts.take i)).2),w4,w5,w6]) ⟨rfl,_,_,_,rfl⟩ ?_ ?_
 ·rintro i x ρ μ ⟨rfl,w4,w5,w6,rfl⟩ hx
  rw [List.getElem?_map] at hx
  obtain ⟨t,ht',rfl⟩:=Option.map_eq_some_iff.mp hx
  have mt:=List.mem_of_getElem? ht'
  obtain ⟨z1,z2,z3,z4⟩:=zN hf (ts:=ts.take i) fun t h=>c4 t (List.mem_of_mem_take h)
  have f:=HK hf t.1
  have WJ:(ts.take i).length≤12:=Nat.le_trans (List.take_sublist _ _).length_le ht.2.2
  have e1:ee fs (ts.take (i+1))=dX fs (ee fs (ts.take i)) t:=by
   rw [List.take_succ,ht']
   exact A7 fs _ t
  refine vJ ((dN (zo (k:=.inr t.1) (ak rfl) (ak rfl) (j8 (aj aF (aj aF aA)) (by decide)) rfl rfl) (Ko fs t.1)) _ (xY _ ?_))
  have c1:jZ (ee fs (ts.take i)).1 (rK fs t.1).2:=⟨_,_,z2,f.b,by omega⟩
  have c2:jZ t.2 (rK fs t.1).1:=⟨_,_,c4 t mt,f.t,by omega⟩
  have c3:jZ (t.2*(rK fs t.1).1) (ee fs (ts.take i)).2:=⟨_,_,(c4 t mt).mul f.t,z3,by omega⟩
  have c5:jZ (ee fs (ts.take i)).2 (rK fs t.1).2:=⟨_,_,z3,f.b,by omega⟩
  refine qu (x:=.int (dX fs (ee fs (ts.take i)) t).1) (wm (f:=fun i j=>Dt.int (i+j)) (qR (f:=fun i j=>Dt.int (i*j)) (ak rfl) (ak rfl) c1) (qR (f:=fun i j=>Dt.int (i*j)) (qR (f:=fun i j=>Dt.int (i*j)) (mK (k:=.inr t.1) (ak rfl) (ak rfl) rfl rfl (qw ht.2.1 mt)) (ak rfl) c2) (ak rfl) c3)) ?_
  refine Gu (x:=.int (dX fs (ee fs (ts.take i)) t).2) (qR (f:=fun i j=>Dt.int (i*j)) (ak rfl) (ak rfl) c5) ?_
  exact ⟨rfl,_,_,_,by rw [e1];rfl⟩
 ·rintro ρ μ ⟨rfl,w4,w5,w6,rfl⟩
  rw [List.length_map,List.take_length]
  exact jf (j8 (aj (ak rfl) (aj (ak rfl) aA)) (by show 2≤sizeLine;decide)) k
theorem aC:FnScope ["_law_pen_here", "_law_owners", "_law_parts", "_law_owner", "_law_told", "_law_made", "_law_pairs", "_law_gaps_so", "_law_found", "_law_due"] ["_law_pen_here"] (defScope cH):=by walk_at "S"
theorem qA (T:Txt K mg D) (TB:pe K mg base):gG P w K mg base 9 D.eT D.gS ["_law_pen_here"] (aV K Kr):=by
 refine Fun.pA T.eW aC ?_ ?_
 walk_at "A2"
 walk_at "P"
 obtain ⟨NX,b0⟩:=HW (ps:=["self", "top", "bottom"]) T.cg (by walk_at "bdd0")
 obtain ⟨it1,b1⟩:=So (ps:=["self", "values"]) T.oO (by walk_at "bdd2")
 have tP:=@HU K
 have Nz:=@HV K
 have Wh:=@Sk K
 have Uz:=@HU K
 have Wi:=@Sl K
 have hW:=eU hx
 refine ⟨_,(pss_cons (ps_set (i:=1) aC.nd rfl (Or.inl rfl) (cY (lK (P:=P) (w:=w) T TB :) (hr.mono (by decide)) ay T.ji T.dj.kp (T.dj.binds (ps:=["_law_pen_here", "_law_many"]) (by walk_at "n2")) .nil (pa_cons (pv 0) (pa_cons pe_int pa_nil))))
  (pss_cons (ps_set (i:=2) aC.nd rfl (Or.inl rfl) (pe_callTy (call_dictP rfl) (by rfl) T.mX (by decide +kernel) (pa_cons (gT (own:=[("_law_owner",3)]) (g:=(gName 3)) (tt:=tYes) rfl aC.nd (pi_list (pe_slice sl_list (pv 1) po_none (po_some (cY (jB (P:=P) (w:=w) T TB :) (hr.mono (by decide)) ay T.gH T.bY.kp (T.bY.binds (ps:=["_law_pen_here", "_law_many"]) (by walk_at "n2")) .nil (pa_cons (pv 0) (pa_cons pe_int pa_nil)))))) (blkOk_by (own:=[("_law_owner",3)]) (N:=["_law_pen_here", "_law_owners", "_law_parts", "_law_owner", "_law_told", "_law_made", "_law_pairs", "_law_gaps_so", "_law_found", "_law_due"]) (sc:=defScope cH) (by decide +kernel)) (fun _ _ _ _ _=>(pg_name (i:=3) aC.nd rfl (Or.inl rfl))) (fun _ _ _ _ _=>pts_nil) (fun _ _ _ _ _=>(pe_tup (pa_cons (pv 3) (pa_cons (cY (cz (P:=P) (w:=w) T TB :) (hr.mono (by decide)) ay T.cE T.aG.kp (T.aG.binds (ps:=["_law_pen_here", "_law_some"]) (by walk_at "n2")) .nil (pa_cons (pv 0) (pa_cons (cI (pa_cons pe_int (pa_cons (pe_un un_neg pe_int) (pa_cons pe_int (pa_cons (pe_un un_neg pe_int) (pa_cons pe_int pa_nil)))))) pa_nil))) pa_nil))))) pa_nil)))
  (pss_cons (ps_set (i:=4) aC.nd rfl (Or.inr rfl) (pe_callTy (call_dictP rfl) (by rfl) T.mX (by decide +kernel) (pa_cons (gT (own:=[("_law_owner",3)]) (g:=(gName 3)) rfl aC.nd (pi_list (pv 1)) (blkOk_by (own:=[("_law_owner",3)]) (N:=["_law_pen_here", "_law_owners", "_law_parts", "_law_owner", "_law_told", "_law_made", "_law_pairs", "_law_gaps_so", "_law_found", "_law_due"]) (sc:=defScope cH) (by decide +kernel)) (fun _ _ _ _ _=>(pg_name (i:=3) aC.nd rfl (Or.inl rfl))) (fun _ _ _ _ _=>(pts_one (pt_cmpR op_gt (cY (jB (P:=P) (w:=w) T TB :) (hr.mono (by decide)) ay T.gH T.bY.kp (T.bY.binds (ps:=["_law_pen_here", "_law_many"]) (by walk_at "n2")) .nil (pa_cons (pv 0) (pa_cons pe_int pa_nil))) pe_int (nomark _)))) (fun _ _ _ _ _=>(pe_tup (pa_cons (pv 3) (pa_cons (cY (lO (P:=P) (w:=w) T TB :) (hr.mono (by decide)) ay T.jk T.dD.kp (T.dD.binds (ps:=["_law_pen_here"]) (by walk_at "n1")) .nil (pa_cons (pv 0) pa_nil)) pa_nil))))) pa_nil)))
  (pss_cons (ps_dput (hu_of hr.room) (pv 4) pe_str (cY (lO (P:=P) (w:=w) T TB :) (hr.mono (by decide)) ay T.jk T.dD.kp (T.dD.binds (ps:=["_law_pen_here"]) (by walk_at "n1")) .nil (pa_cons (pv 0) pa_nil)) rfl)
  (pss_cons (ps_set (i:=5) aC.nd rfl (Or.inl rfl) (nj T.lH (ie (P:=P) (w:=w) T TB :) (hr.mono (by decide)) (takes_of (E:=E) rfl rfl rfl rfl) T.oR (DJ (ps:=["self", "parts"]) T.eL (by walk_at "bkq0")) (pa_cons (pv 2) pa_nil) pk_nil))
  (pss_cons (FD (ps_setLc (i:=6) (own:=[("_law_owner",3)]) (g:=(gName 3)) (tt:=tYes) rfl aC.nd rfl rfl (sw_true rfl rfl rfl (by decide +kernel)) (pi_keys (nC (pv 4))) (blkOk_by (own:=[("_law_owner",3)]) (N:=["_law_pen_here", "_law_owners", "_law_parts", "_law_owner", "_law_told", "_law_made", "_law_pairs", "_law_gaps_so", "_law_found", "_law_due"]) (sc:=defScope cH) (by decide +kernel)) (fun _ _ _ _ _=>(pg_name (i:=3) aC.nd rfl (Or.inl rfl))) (fun _ _ _ _ _=>pts_nil) (fun _ _ _ _ _=>(pe_tup (pa_cons (pv 3) (pa_cons (nj T.gI (dc (P:=P) (w:=w) T TB :) (hr.mono (by decide)) ay T.cF b0 (pa_cons (pe_ix (Ce (K:=K) rfl) (pe_dget (hu_of hr.room) (pv 4) (pv 3) (fun _ _=>rfl)) pe_int (fun _ _=>rfl)) (pa_cons (pe_ix (Ce (K:=K) rfl) (pe_dget (hu_of hr.room) (pv 4) (pv 3) (fun _ _=>rfl)) pe_int (fun _ _=>rfl)) pa_nil)) pk_nil) pa_nil))))))
  (pss_cons (ps_set (i:=7) aC.nd rfl (Or.inl rfl) (nj T.Cz (yu (P:=P) (w:=w) T TB :) (hr.mono (by decide)) (takes_of (E:=E) rfl rfl rfl rfl) T.HY b1 (pa_cons (pe_callTy (call_dictP rfl) (by rfl) T.mX (by decide +kernel) (pa_cons (pv 6) pa_nil)) pa_nil) pk_nil))
  (pss_cons (ps_par (i:=8) (j:=9) (by rfl) aC.nd rfl rfl (by decide) rfl rfl (pa_cons (KO (pv 5) (T.jH).cls T.fT (iK (P:=P) (w:=w) T TB :) (hr.mono (by decide)) ay (DJ (ps:=["self", "gaps"]) T.eH (by walk_at "bkq0")) (pa_cons (pv 7) pa_nil) pk_nil) (pa_cons (cY (zV (P:=P) (w:=w) T TB :) (hr.mono (by decide)) ay T.uZ T.mW.kp (T.mW.binds (ps:=["_law_parts", "_law_told"]) (by walk_at "n2")) .nil (pa_cons (pv 2) (pa_cons (pv 4) pa_nil))) pa_nil)) (by rfl))
  (pss_cons (ps_if (PW.pt (pw_or (pt_not (pt_val (pe_callB iO (by rfl) T.bG (by decide +kernel) (pa_cons (pv 8) (pa_cons (pe_glob (v:=.ref D.ao) rfl T.cF rfl) pa_nil))))) (pw_or1 (pt_cmpR qo (pe_op eN (pe_fld (pv 8) rfl) (pe_ix ix_tup (pv 9) pe_int (fun _ _=>rfl))) (pe_op eN (pe_ix ix_tup (pv 9) pe_int (fun _ _=>rfl)) (pe_fld (pv 8) rfl)) (nomark _))))) (pss_one (ps_ret pe_bl)) pss_nil)
  (pss_cons (ps_if (IS (Oo T.aM T.w9 T.mY T.mZ (rF (P:=P) (w:=w) T TB :) (hr.mono (by decide)) (T.kO.binds (ps:=["self", "other"]) (by walk_at "n2"))) (KO (pe_un (Bw T.pX T.pY (vR (P:=P) (w:=w) T TB :) (hr.mono (by decide)) (T.mS.binds (ps:=["self"]) (by walk_at "n1"))) (pv 5)) (T.jH).cls T.fT (iK (P:=P) (w:=w) T TB :) (hr.mono (by decide)) ay (DJ (ps:=["self", "gaps"]) T.eH (by walk_at "bkq0")) (pa_cons (pv 7) pa_nil) pk_nil) (pe_un (Bw T.pV T.pW (vQ (P:=P) (w:=w) T TB :) (hr.mono (by decide)) (T.mR.binds (ps:=["self"]) (by walk_at "n1"))) (pv 8)) (nomark _)) (pss_one (ps_ret pe_bl)) pss_nil)
  (pss_one (ps_ret (IQ (os_eq T.mY T.mZ (rF (P:=P) (w:=w) T TB :) (hr.mono (by decide)) (T.kO.binds (ps:=["self", "other"]) (by walk_at "n2"))) (pv 8) (Mc (pv 5) (T.jH).cls T.fT (iK (P:=P) (w:=w) T TB :) (hr.mono (by decide)) ay (Sn (ps:=["self", "gaps"]) T.eH (by walk_at "bkq2")) (pk_cons (pv 7) pk_nil)) (nomark _)))))))))))))),?_⟩
 walk_at "F"
 refine ⟨_,(az (bU (dg aB (fun _=>.nil) (af ah (af av ai))) aH)
  (az (bU (cM uN (af (jn (iX (FP AH ah C1 (Jb (dg aB (fun _=>.nil) (af ah (af av ai)))))) (bM (by decide)) gy (fq (af ah (af (dg aB (fun _=>.nil) (af ah (af (eO (af av (af (qO iF av) (af av (af (qO iF av) (af av ai)))))) ai))) ai)))) ai)) aH)
  (az (bU (cM Di (af (jn (iX ah) (bM (by decide)) (gY (bN yT (dg aB (fun _=>.nil) (af ah (af av ai))) av)) (fq (af ah (af (dg aB (fun _=>.nil) (af ah ai)) ai)))) ai)) aH)
  (az (t8 ah aS (dg aB (fun _=>.nil) (af ah ai)))
  (az (xS (i:=4) (bU (nB hW tP (af ah ai) ai) aH))
  (az (bU (jn (f9 ah) (bM (by decide)) gy (fq (af ah (af (nB aB Nz (af (bN o8 (jy ah ah) av) (af (bN o8 (jy ah ah) av) ai)) ai) ai)))) aH)
  (az (bU (nB hW Wh (af (cM uN (af ah ai)) ai) ai) aH)
  (az (F7 (af (FY aB Uz ah (af ah ai) ai) (af (dg aB (fun _=>.nil) (af ah (af ah ai))) ai)))
  (az (cJ (BF (fu (fW (cM cZ (af ah (af j7 ai))))) (gY (bN iE (bN d9 (fz (T.aM).cls T.cu ah) (bN o8 ah av)) (bN d9 (bN o8 ah av) (fz (T.aM).cls T.bw ah))))) (aU j6) bE)
  (az (cJ (gY (xH Jk (FY aB Uz (qO F0 ah) (af ah ai) ai) (qO F0 ah))) (aU j6) bE)
  (aU (xH Jj ah (FY aB Wi ah ai (af ah ai)))))))))))))),?_⟩
 walk_at "C"
 obtain ⟨p,n,rfl,hp,hn,k⟩:=h
 refine tK (g_ (b9 ⟨_,rfl,b9 (aF _ ⟨p,n,5,rfl,hp,by omega,by decide,by decide,fun zs hz hA=>?_⟩)⟩))
 have l5:zs.length=5:=by omega
 have PY:=hA.name
 have s5:5≤sizeLine:=by decide
 refine tK (NT (b9 ?_))
 refine Nq (ds:=zs.map Dt.str) (ak rfl) (AQ (n:=n+1+zs.length) rfl aq (by omega) (by decide) (by unfold Sz;decide) fun c c0 c1=>⟨c,rfl,_,rfl,_,rfl,?_⟩)
 rw [aO]
 obtain ⟨cn,rfl⟩:∃ cn:Nat,c=(cn:Int):=⟨c.toNat,by omega⟩
 rw [Dy,← List.map_take]
 have lz:(zs.take cn).length≤5:=by rw [List.length_take];omega
 have Wj:(zs.take cn).Nodup:=hA.1.sublist (List.take_sublist _ _)
 refine ⟨by rw [List.length_map];omega,?_⟩
 refine Gp (fun i acc μ'=>∃ ts:List (Str×Int),ts.map (·.1)=(zs.take cn).take i∧(∀ t∈ts,t.2∈([1,-1,2,-9,9]:List Int))∧acc=ts.map (fun t=>Dt.tup [.str t.1,.int t.2])∧μ'=aJ P0.μ p (.jD (n+1+zs.length+1+i))) ⟨[],rfl,by simp,rfl,rfl⟩ ?_ ?_
 ·rintro i x acc μ' ⟨ts,h1,h2,rfl,rfl⟩ hx
  rw [List.getElem?_map] at hx
  obtain ⟨z,hz,rfl⟩:=Option.map_eq_some_iff.mp hx
  have hi:i<(zs.take cn).length:=(List.getElem?_eq_some_iff.mp hz).1
  refine Pg (Ph (b9 ⟨_,rfl,b9 (Cb (n:=n+1+zs.length+1+i) (ms:=[1,-1,2,-9,9]) rfl (eS (aj aF (aj (sd aF) (aj aF (aj (sd aF) (aj aF aA))))) (by decide)) aq (by omega) (by decide) (by decide) fun m hm=>⟨by show 2≤sizeLine;decide,ts++[(z,m)],?_,?_,by simp,by rw [aO];rfl⟩)⟩))
  ·rw [List.map_append,h1,List.take_succ (l:=zs.take cn),hz]
   rfl
  ·intro t ht
   rcases List.mem_append.mp ht with h |h
   ·exact h2 t h
   ·rw [List.mem_singleton.mp h]
    exact hm
 rintro acc μ' ⟨ts,h1,h2,rfl,rfl⟩
 rw [List.length_map,List.take_length] at h1
 rw [List.length_map]
 have NW:(ts.map (·.1)).Nodup:=by rw [h1];exact Wj
 refine ⟨_,nR ts,rfl,AW ts,?_⟩
 rw [pq (uQ NW)]
 have hc:∀ t∈ts,fB (.int t.2) 9=true:=fun t ht=>by
  have:=h2 t ht
  simp only [List.mem_cons,List.not_mem_nil,or_false] at this
  rcases this with e |e |e |e |e <;> rw [e] <;> decide
 have hl:ts.length≤5:=by
  rw [← List.length_map (f:=fun t:Str×Int=>t.1),h1]
  exact lz
 have hT:kZ ts:=⟨fun t ht=>⟨PY _ (List.mem_of_mem_take (by rw [← h1];exact List.mem_map_of_mem ht)),hc t ht⟩,NW,by omega⟩
 have c4:∀ t∈ts,Sz 4 t.2:=fun t h=>by
  have:=hc t h
  simp [fB] at this
  unfold Sz
  omega
 generalize hn1:n+1+zs.length+1+(zs.take cn).length=n1
 have SY:n1≤n+12:=by omega
 refine tK (NT (b9 (RQ (ak rfl) (by rw [List.length_map];omega) ?_)))
 refine Gp (fun i acc μ'=>∃ (fs:zL) (n':Nat),(∀ f∈fs,f.1∈zs.take i)∧(fs.map (·.1)).Nodup∧(∀ f∈fs,Fq f.2)∧fs.length≤i∧acc=fs.map (fun f=>Dt.tup [.str f.1,frT f.2])∧n1≤n'∧n'≤n1+4*i∧μ'=aJ P0.μ p (.jD n')) ⟨[],n1,by simp,by simp,by simp,by simp,rfl,Nat.le_refl _,by omega,rfl⟩ ?_ ?_
 ·rintro i x acc μ' ⟨fs,n',g1,g2,g3,g6,rfl,g4,g5,rfl⟩ hx
  rw [List.getElem?_map] at hx
  obtain ⟨z,hz,rfl⟩:=Option.map_eq_some_iff.mp hx
  have hi:i<zs.length:=(List.getElem?_eq_some_iff.mp hz).1
  have up:∀ {y:Str},y∈zs.take i→y∈zs.take (i+1):=fun h=>by rw [List.take_succ];exact List.mem_append_left _ h
  refine b_ (T3 (AQ (n:=n') rfl aq (by omega) (by decide) (by unfold Sz;decide) fun r r0 r1=>⟨r,0,rfl,rfl,_,rfl,?_⟩))
  rw [aO]
  refine ite2 (fun _=>?_) (fun _=>⟨fs,n'+1,fun f hf=>up (g1 f hf),g2,g3,by omega,rfl,by omega,by omega,rfl⟩)
  refine Ph (b9 ⟨_,rfl,b9 (g_ (b9 ⟨_,rfl,p,n'+1,rfl,aq,by omega,fun f hf=>⟨by show 2≤sizeLine;decide,?_⟩⟩))⟩)
  rw [aO]
  refine ⟨fs++[(z,f)],n'+1+3,?_,?_,?_,by rw [List.length_append];simp;omega,by rw [List.map_append];rfl,by omega,by omega,rfl⟩
  ·intro y hy
   rcases List.mem_append.mp hy with hy |hy
   ·exact up (g1 y hy)
   ·rw [List.mem_singleton.mp hy,List.take_succ,hz]
    exact List.mem_append_right _ (List.mem_singleton.mpr rfl)
  ·rw [List.map_append]
   refine List.nodup_append.mpr ⟨g2,by simp,fun a ha b hb e=>?_⟩
   rw [List.mem_singleton.mp hb] at e
   obtain ⟨y,hy,rfl⟩:=eX ha
   have m:=g1 y hy
   rw [e] at m
   obtain ⟨j,hj⟩:=List.mem_iff_getElem?.mp m
   have lj:j<i:=by
    have:=(List.getElem?_eq_some_iff.mp hj).1
    rw [List.length_take] at this
    omega
   rw [List.getElem?_take_of_lt lj] at hj
   obtain ⟨l1,v1⟩:=List.getElem?_eq_some_iff.mp hj
   obtain ⟨l2,v2⟩:=List.getElem?_eq_some_iff.mp hz
   exact (List.pairwise_iff_getElem.mp hA.1) j i l1 l2 lj (v1.trans v2.symm)
  ·intro y hy
   rcases List.mem_append.mp hy with hy |hy
   ·exact g3 y hy
   ·rw [List.mem_singleton.mp hy]
    exact hf
 rintro acc μ' ⟨fs,n',g1,g2,g3,g6,rfl,g4,g5,rfl⟩
 rw [List.length_map] at g5 g6
 have Wk:((yc fs).map (·.1)).Nodup:=by
  unfold yc
  rw [List.map_map]
  have:=List.Pairwise.map (R:=fun a b:Str=>a≠b) (S:=fun a b:Key=>a≠b) Sum.inr (fun a b h e=>h (Sum.inr.inj e)) g2
  rw [List.map_map] at this
  exact this
 refine ⟨_,yc fs,rfl,HQ fs,fun pl hpl=>?_⟩
 rw [pq Wk]
 have ne:p≠pl:=fun z=>by rw [← z,aq] at hpl;cases hpl
 have H7:P0.μ pl=none:=by rw [aX ne.symm] at hpl;exact hpl
 refine vJ (g_ (b9 ⟨_,rfl,p,n',rfl,by rw [aX ne];exact aq,by omega,fun f0 hf0=>?_⟩))
 rw [iH ne.symm,aO]
 have no:Str.ofString "other" ∉ fs.map (·.1):=fun h=>by
  obtain ⟨f,hf,e⟩:=eX h
  have m:=List.mem_of_mem_take (g1 f hf)
  obtain ⟨_,Pl,Wl,hm⟩:=hA
  rw [e] at m
  have:∀ P∈qZ,Str.ofString "other" ∉ P:=by decide +kernel
  exact this Pl Wl (hm _ m)
 have Wm:(Sum.inr (Str.ofString "other"):Key)∉(yc fs).map (·.1):=fun h=>by
  unfold yc at h
  rw [List.map_map] at h
  obtain ⟨f,hf,e⟩:=eX h
  exact no (List.mem_map.mpr ⟨f,hf,Sum.inr.inj e⟩)
 have lf:fs.length≤5:=by omega
 refine ⟨_,rfl,pl,yc fs,.inr (Str.ofString "other"),rfl,aq,rfl,by unfold yc;rw [List.length_map];exact Nat.lt_of_le_of_lt lf (by decide),?_⟩
 rw [ya Wm,aO]
 have eF:yc fs++[(Sum.inr (Str.ofString "other"),frT f0)]=yc (fs++[(Str.ofString "other",f0)]):=by
  unfold yc
  rw [List.map_append]
  rfl
 rw [eF]
 generalize hgs:fs++[(Str.ofString "other",f0)]=rL
 have S7:(rL.map (·.1)).Nodup:=by
  rw [← hgs,List.map_append]
  exact List.nodup_append.mpr ⟨g2,by simp,fun a ha b hb e=>no (by rw [List.mem_singleton.mp hb] at e;have e':a=Str.ofString "other" := e;rw [e'] at ha;exact ha)⟩
 have hf:∀ f∈rL,Fq f.2:=fun f h=>by
  rw [← hgs] at h
  rcases List.mem_append.mp h with h |h
  ·exact g3 f h
  ·rw [List.mem_singleton.mp h]
   exact hf0
 have Uc:∀ f∈rL,bO (.str f.1)=true:=fun f h=>by
  rw [← hgs] at h
  rcases List.mem_append.mp h with h |h
  ·exact PY _ (List.mem_of_mem_take (g1 f h))
  ·rw [List.mem_singleton.mp h]
   exact (by decide +kernel:bO (.str (Str.ofString "other"))=true)
 have l0:rL.length≤6:=by rw [← hgs,List.length_append];simp;omega
 refine JK rfl aq rfl ?_
 rw [gz (by rw [aX ne.symm];exact H7)]
 refine qu (Cv (ak rfl) (by simp [kg]) hT) ?_
 have zq:∀ f∈rL,Zr 97 (vL f.2):=fun f h=>by
  have b:=(hf f h).b1
  have b0:f.2.2≠0:=by omega
  have bR:((f.2.2:Int):Rat)≠0:=by exact_mod_cast b0
  exact Ct b0 (by unfold vL;grind) (hf f h).t (hf f h).b
 have ek:(yc rL).map (fun kv=>wA kv.1)=rL.map fun f=>Dt.str f.1:=by
  unfold yc
  rw [List.map_map]
  rfl
 refine qu (x:=.lst (rL.map fun f=>Dt.tup [.str f.1,aQ D.ao (vL f.2)])) (mP (fun f:Str×(Int×Int)=>Dt.str f.1) (fun f=>Dt.tup [.str f.1,aQ D.ao (vL f.2)]) _ (mO (mL (ak rfl)) ek) (Nat.le_trans l0 (by decide)) (fun f m=>g7) (fun f m=>j8 (aj (ak rfl) (aj (K5 (n:=97) (i:=f.2.1) (j:=f.2.2) (a:=vL f.2) (xX (ds:=[.int f.2.1,.int f.2.2]) (mK (k:=.inr f.1) (ak rfl) (ak rfl) rfl rfl (uX S7 m)) aF (O8 _ _)) (xX (ds:=[.int f.2.1,.int f.2.2]) (mK (k:=.inr f.1) (ak rfl) (ak rfl) rfl rfl (uX S7 m)) aF (O9 _ _ _)) (by have:=(hf f m).b1;omega) ((hf f m).b.mono (by decide)) (Ks (hf f m)) (zq f m)).run aA)) (by show 2≤sizeLine;decide))) ?_
 have tl:Kd D.ao 97 (Cu D.ao rL):=⟨fun u h=>by
   obtain ⟨f,m,rfl⟩:=eX h
   exact Uc f m,by unfold Cu;rw [List.map_map];exact S7,fun u h=>by
   obtain ⟨f,m,rfl⟩:=eX h
   exact vI,fun u h=>by
   obtain ⟨f,m,rfl⟩:=eX h
   exact zq f m,by unfold Cu;rw [List.length_map];omega⟩
 have gk:Ld 300 (Ke (Cu D.ao rL)):=(Nm tl).Pu (by decide)
 refine qu (x:=Qx D.je D.ao (Ke (Cu D.ao rL))) (fun q' k'=>RI (b9 (NT (b9 (ak rfl _ ⟨_,Cj (Cu D.ao rL),rfl,Ku _ rL,?_⟩))))) ?_
 ·rw [pq (by rw [Kn];exact List.Pairwise.map (R:=fun a b:Str=>a≠b) _ (fun a b h e=>h (Sum.inr.inj e)) tl.nd)]
  refine ⟨rfl,rfl,fun a ha=>⟨a,_,_,rfl,aq,.tl _ ⟨tl.nm,tl.nd,tl.nq,fun u h=>(tl.zr u h).mono (by decide),tl.len⟩,⟨rfl,_,aq,?_⟩⟩⟩
  rw [mG ha]
  exact k'
 have pS:=uS hT.2.1
 have hS:kZ (qY ts):=hT.perm pS.1
 obtain ⟨z1,z2,z3,z4⟩:=zN hf c4
 generalize hr:j9 (ts.map fun t=>vL (rK rL t.1)*(t.2:Rat))=r at z4
 have gv:∀ z,qx (Ke (Cu D.ao rL)) z=vL (rK rL z):=fun z=>by rw [Kh,Px]
 have sm:∀ {us:List (Str×Int)},us.Perm ts→DF us (Ke (Cu D.ao rL))=r:=fun {us} pu=>by
  unfold DF
  rw [wO (pu.map _),← hr]
  exact congrArg j9 (List.map_congr_left fun t _=>by rw [gv])
 have Wn:∀ {us:List (Str×Int)},us.Perm (kc ts)→DF us (Ke (Cu D.ao rL)) = -r:=fun {us} pu=>by
  unfold DF
  rw [wO (pu.map _),← hr]
  unfold kc
  rw [List.map_map,← wR]
  refine congrArg j9 (List.map_congr_left fun t _=>?_)
  show qx _ t.1*(((0 - t.2:Int)):Rat) = -(vL (rK rL t.1)*(t.2:Rat))
  rw [gv]
  push_cast
  grind
 have B0:(ee rL ts).2≠0:=by omega
 have zr:Zr 1000 r:=(Ct B0 z4 (z2.mono (by omega)) (z3.mono (by omega)):Zr 1000 r)
 refine Gv (x:=aQ D.ao r) (y:=frT (ee rL ts)) (aj (G5 (ak rfl) rfl rfl (aj (ak rfl) aA) aA fun q' x' k'=>⟨_,_,_,_,rfl,by simp [kg],hS,gk,by rw [sm pS.1];exact k'⟩) (aj (pC (aj (ak rfl) (aj (ak rfl) aA)) fun q' x' k'=>⟨ts,rL,rfl,hT,hf,k'⟩) aA)) ?_
 have eq:r.num*(ee rL ts).2=(ee rL ts).1*(r.den:Int):=Nt z4
 refine fY (AN (aY (dW (fK (G8 T.aM (ak rfl) kN))) rfl) (aY (fK (Gr (qR (f:=fun i j=>Dt.int (i*j)) (GF (uK rfl zr)) (xX (ds:=[.int (ee rL ts).1,.int (ee rL ts).2]) (ak rfl) aF (O9 _ _ _)) ⟨_,_,zr.num,z3,by omega⟩) (qR (f:=fun i j=>Dt.int (i*j)) (xX (ds:=[.int (ee rL ts).1,.int (ee rL ts).2]) (ak rfl) aF (O8 _ _)) (wu (uK rfl zr)) ⟨_,_,z2,zr.den,by omega⟩))) (by simp [eq]))) ?_
 have N1:kZ (kc (qY ts)):=hS.neg
 have p2:(qY (kc (qY ts))).Perm (kc ts):=(uS N1.2.1).1.trans (pS.1.map _)
 refine fY (aY (fK (GD (a:=-r) (b:=-r) (m:=1000) (n:=1000) ⟨G5 (JW (ak rfl) (by simp [kg]) hS) rfl rfl (aj (ak rfl) aA) aA fun q' x' k'=>⟨_,_,_,_,rfl,by simp [kg],N1.perm (uS N1.2.1).1,gk,by rw [Wn p2];exact k'⟩,vI,zr.neg⟩ (GA (uK rfl zr) (by decide)))) (by simp)) ?_
 refine jf (x:=.bl true) (dN (GB (a:=r) (b:=r) (m:=1000) (n:=1000) (uK rfl zr) ⟨G5 (ak rfl) rfl rfl aA (aj (ak rfl) aA) fun q' x' k'=>⟨_,_,_,_,rfl,by simp [kg],hS,gk,by rw [sm pS.1];exact k'⟩,vI,zr⟩) (by simp)) ?_
 exact k _ (by omega) (by omega)
theorem Bh:FnScope ["_law_script", "_law_pen_here", "_law_turn"] ["_law_script"] (defScope Ef):=by walk_at "S"
theorem NB (T:Txt K mg D) (TB:pe K mg base):gG P w K mg base 10 D.yx D.Bm ["_law_script"] (aV K Cr):=by
 refine Fun.pA T.HX Bh ?_ ?_
 walk_at "A1"
 walk_at "P"
 refine ⟨_,(pss_cons (ps_set (i:=1) Bh.nd rfl (Or.inl rfl) (cY (zS (P:=P) (w:=w) T TB :) (hr.mono (by decide)) ay T.uY T.mQ.kp (T.mQ.binds (ps:=["_law_script"]) (by walk_at "n1")) .nil (pa_cons (pv 0) pa_nil)))
  (pss_cons (mw (passes_of rfl) rfl (pi_range1 (by rfl) T.yf (pa_cons pe_int pa_nil)) (pg_name (i:=2) Bh.nd rfl (Or.inl rfl))
   (pss_one (ps_if (PW.pt (pw_or (pt_not (pt_val (cY (qA (P:=P) (w:=w) T TB :) (hr.mono (by decide)) ay T.kP T.eW.kp (T.eW.binds (ps:=["_law_pen_here"]) (by walk_at "n1")) .nil (pa_cons (pv 1) pa_nil)))) (pw_or1 (pt_not (pt_val (cY (nN (P:=P) (w:=w) T TB :) (hr.mono (by decide)) ay T.iZ T.dO.kp (T.dO.binds (ps:=["_law_pen_here"]) (by walk_at "n1")) .nil (pa_cons (pv 1) pa_nil))))))) (pss_one (ps_ret pe_bl)) pss_nil)))
  (pss_one (ps_ret pe_bl)))),?_⟩
 walk_at "F"
 refine ⟨_,(az (bU (dg aB (fun _=>.nil) (af ah ai)) aH)
  (az (qq (wh (af av ai)) aH
   (cJ (BF (fu (fW (dg aB (fun _=>.nil) (af ah ai)))) (fu (fW (dg aB (fun _=>.nil) (af ah ai))))) (aU j6) bE))
  (aU j6))),?_⟩
 walk_at "C"
 obtain ⟨ns,rfl,hl,hz,k⟩:=h
 have UA:(2:Int) ^ 62=4611686018427387904:=by decide
 refine tK (g_ (b9 ⟨_,rfl,ns,rfl,hl,hz,fun p hp=>?_⟩))
 refine vJ (Pf (aj aF aA) (by rw [UA];omega) (by rw [UA];omega) (uH (fun i ρ μ'=>(∃ w2,ρ=[some (.BA ns),some (.raw (.ref p)),w2])∧∃ n,n≤1000*i∧μ'=aJ P0.μ p (.jD n)) ⟨⟨_,rfl⟩,0,Nat.le_refl _,rfl⟩ ?_ ?_))
 ·rintro i x ρ μ' ⟨⟨w2,rfl⟩,n,hn,rfl⟩ hx
  have hi:=(Nk hx).1
  have WK:i<8:=hi
  refine R3 (Pj (b_ (g_ (b9 ⟨_,rfl,p,n,rfl,aq,by omega,fun n1 h1 h2=>⟨true,rfl,?_⟩⟩))))
  rw [if_neg (by decide),aO]
  refine Pj (b_ (g_ (b9 ⟨_,rfl,p,n1,rfl,aq,by omega,fun n2 h3 h4=>⟨true,rfl,?_⟩⟩)))
  dsimp only
  rw [aO]
  exact ⟨⟨_,rfl⟩,n2,by omega,rfl⟩
 ·rintro ρ μ' ⟨⟨w2,rfl⟩,n,hn,rfl⟩
  dsimp only
  exact jf aF (k _)
end
theorem NC {K:Frag} {h:Heap} {mg:Str→Option Value} (c:v7 N4 ex h K) (G:h.Ns mainGlobals mg):Txt K mg (NH K):=by
 have X:=c.kin
 have cc:=c.more
 unfold ex at cc
 obtain ⟨d0,cc⟩:=fZ cc
 unfold P7 at d0
 obtain ⟨c0,d0⟩:=fZ d0
 obtain ⟨c1,d0⟩:=fZ d0
 have c2:=d0
 obtain ⟨d1,cc⟩:=fZ cc
 unfold P8 at d1
 obtain ⟨c3,d1⟩:=fZ d1
 obtain ⟨c4,d1⟩:=fZ d1
 have c5:=d1
 obtain ⟨d2,cc⟩:=fZ cc
 unfold P9 at d2
 obtain ⟨c6,d2⟩:=fZ d2
 obtain ⟨c7,d2⟩:=fZ d2
 obtain ⟨c8,d2⟩:=fZ d2
 obtain ⟨c9,d2⟩:=fZ d2
 have vW:=d2
 have d3:=cc
 unfold Qa at d3
 obtain ⟨vX,d3⟩:=fZ d3
 obtain ⟨c12,d3⟩:=fZ d3
 obtain ⟨vY,d3⟩:=fZ d3
 obtain ⟨vZ,d3⟩:=fZ d3
 have S8:=d3
 have t0:Uq K mg (NH K):={
  mQ:=aL (d:=sF) (c.def_ 0) rfl (aa c0 2) (aa c0 3) (aa c0 4),
  di:=aL (d:=uh) (c.def_ 1) rfl (aa c0 5) (aa c0 6) (aa c0 7),
  fC:=aL (d:=sG) (c.def_ 2) rfl (aa c0 8) (aa c0 9) (aa c0 10),
  jA:=aL (d:=pG) (c.def_ 3) rfl (aa c0 11) (aa c0 12) (aa c0 13),
  jF:=aL (d:=um) (c.def_ 4) rfl (aa c0 14) (aa c0 15) (aa c0 16),
  eL:=aL (d:=oq) (c.def_ 5) rfl (aa c0 17) (aa c0 18) (aa c0 19),
  bY:=aL (d:=qE) (c.def_ 6) rfl (aa c1 0) (aa c1 1) (aa c1 2),
  aG:=aL (d:=qF) (c.def_ 7) rfl (aa c1 3) (aa c1 4) (aa c1 5),
  dj:=aL (d:=lu) (c.def_ 8) rfl (aa c1 6) (aa c1 7) (aa c1 8),
  bF:=aL (d:=pH) (c.def_ 9) rfl (aa c1 9) (aa c1 10) (aa c1 11),
  dO:=aL (d:=ir) (c.def_ 10) rfl (aa c1 12) (aa c1 13) (aa c1 14),
  b8:=aL (d:=jm) (c.def_ 11) rfl (aa c1 15) (aa c1 16) (aa c1 17),
  cU:=aL (d:=qG) (c.def_ 12) rfl (aa c1 18) (aa c1 19) (aa c2 0),
  kO:=aL (d:=qH) (c.def_ 13) rfl (aa c2 1) (aa c2 2) (aa c2 3),
  fQ:=aL (d:=kK) (c.def_ 14) rfl (aa c2 4) (aa c2 5) (aa c2 6),
  cg:=zA (d:=ou) (c.def_ 15) rfl (aa c2 7) (aa c2 8) (aa c2 9),
  mR:=aL (d:=pI) (c.def_ 16) rfl (aa c2 10) (aa c2 11) (aa c2 12),
  k8:=aL (d:=ow) (c.def_ 17) rfl (aa c2 13) (aa c2 14) (aa c2 15),
  oN:=aL (d:=qI) (c.def_ 18) rfl (aa c2 16) (aa c2 17) (aa c2 18),
  dw:=aL (d:=ly) (c.def_ 19) rfl (aa c2 19) (aa c3 0) (aa c3 1),
  g8:=aL (d:=m7) (c.def_ 20) rfl (aa c3 2) (aa c3 3) (aa c3 4),
  oO:=zA (d:=qJ) (c.def_ 21) rfl (aa c3 5) (aa c3 6) (aa c3 7),
  mS:=aL (d:=pJ) (c.def_ 22) rfl (aa c3 8) (aa c3 9) (aa c3 10),
  mU:=aL (d:=pK) (c.def_ 23) rfl (aa c3 11) (aa c3 12) (aa c3 13),
  mV:=aL (d:=pL) (c.def_ 24) rfl (aa c3 14) (aa c3 15) (aa c3 16),
  kh:=aL (d:=m8) (c.def_ 25) rfl (aa c3 17) (aa c3 18) (aa c3 19),
  ki:=aL (d:=m9) (c.def_ 26) rfl (aa c4 0) (aa c4 1) (aa c4 2),
  eH:=aL (d:=lA) (c.def_ 27) rfl (aa c4 3) (aa c4 4) (aa c4 5),
  dD:=aL (d:=lB) (c.def_ 28) rfl (aa c4 6) (aa c4 7) (aa c4 8),
  mW:=aL (d:=sH) (c.def_ 29) rfl (aa c4 9) (aa c4 10) (aa c4 11),
  eW:=aL (d:=jX) (c.def_ 30) rfl (aa c4 12) (aa c4 13) (aa c4 14),
  HX:=aL (d:=Eh) (c.def_ 31) rfl (aa c4 15) (aa c4 16) (aa c4 17),
  iI:=aL (d:=kL) (c.def_ 32) rfl (aa c4 18) (aa c4 19) (aa c5 0),
  kj:=aL (d:=ng) (c.def_ 33) rfl (aa c5 1) (aa c5 2) (aa c5 3),
  ko:=aL (d:=nh) (c.def_ 34) rfl (aa c5 4) (aa c5 5) (aa c5 6),
  kq:=aL (d:=ni) (c.def_ 35) rfl (aa c5 7) (aa c5 8) (aa c5 9),
  uY:=(mg_of X G (aN (aa c5 10))),
  jG:=(mg_of X G (aN (aa c5 11))),
  Ba:=(mg_of X G (aN (aa c5 12))),
  q9:=(mg_of X G (aN (aa c5 13))),
  sq:=(mg_of X G (aN (aa c5 14))),
  gH:=(mg_of X G (aN (aa c5 15))),
  cE:=(mg_of X G (aN (aa c5 16))),
  ji:=(mg_of X G (aN (aa c5 17))),
  fR:=(mg_of X G (aN (aa c5 18))),
  iZ:=(mg_of X G (aN (aa c5 19))),
  i6:=(mg_of X G (aN (aa c6 0))),
  lF:=(mg_of X G (aN (aa c6 1))),
  jj:=(mg_of X G (aN (aa c6 2))),
  oQ:=(mg_of X G (aN (aa c6 3)))}
 have t1:Ur K mg (NH K):={
  jk:=(mg_of X G (aN (aa c6 4))),
  uZ:=(mg_of X G (aN (aa c6 5))),
  kP:=(mg_of X G (aN (aa c6 6))),
  Le:=(mg_of X G (aN (aa c6 7))),
  zO:=PySem.W.mg_none_of X G (aN (aa c6 8)),
  Cw:=PySem.W.mg_none_of X G (aN (aa c6 9)),
  Bb:=PySem.W.mg_none_of X G (aN (aa c6 10)),
  mX:=PySem.W.mg_none_of X G (aN (aa c6 11)),
  lG:=PySem.W.mg_none_of X G (aN (aa c6 12)),
  bG:=PySem.W.mg_none_of X G (aN (aa c6 13)),
  wU:=PySem.W.mg_none_of X G (aN (aa c6 14)),
  ye:=PySem.W.mg_none_of X G (aN (aa c6 15)),
  yf:=PySem.W.mg_none_of X G (aN (aa c6 16)),
  u5:=PySem.W.mg_none_of X G (aN (aa c6 17)),
  u6:=PySem.W.mg_none_of X G (aN (aa c6 18)),
  wV:=Hs X G (aa c6 19),
  wW:=Hs X G (aa c7 0),
  sS:=(mg_of X G (aN (aa c7 8))),
  zP:=⟨(aa c7 1),(aN (aa c7 2)),(aN (aa c7 3)),(aN (aa c7 4)),(aN (aa c7 5)),(aN (aa c0 0)),(aN (aa c0 1)),(aN (aa c7 6))⟩,
  wX:=(mg_of X G (aN (aa c7 16))),
  DL:=⟨(aa c7 9),(aN (aa c7 10)),(aN (aa c7 11)),(aN (aa c7 12)),(aN (aa c7 13)),(aN (aa c0 0)),(aN (aa c0 1)),(aN (aa c7 14))⟩,
  sr:=(mg_of X G (aN (aa c8 4))),
  wY:=⟨(aa c7 17),(aN (aa c7 18)),(aN (aa c7 19)),(aN (aa c8 0)),(aN (aa c8 1)),(aN (aa c0 0)),(aN (aa c0 1)),(aN (aa c8 2))⟩,
  wZ:=(mg_of X G (aN (aa c8 12))),
  DM:=⟨(aa c8 5),(aN (aa c8 6)),(aN (aa c8 7)),(aN (aa c8 8)),(aN (aa c8 9)),(aN (aa c0 0)),(aN (aa c0 1)),(aN (aa c8 10))⟩,
  sU:=(mg_of X G (aN (aa c9 0))),
  zQ:=⟨(aa c8 13),(aN (aa c8 14)),(aN (aa c8 15)),(aN (aa c8 16)),(aN (aa c8 17)),(aN (aa c0 0)),(aN (aa c0 1)),(aN (aa c8 18))⟩,
  ri:=(mg_of X G (aN (aa c9 8))),
  yg:=⟨(aa c9 1),(aN (aa c9 2)),(aN (aa c9 3)),(aN (aa c9 4)),(aN (aa c9 5)),(aN (aa c0 0)),(aN (aa c0 1)),(aN (aa c9 6))⟩,
  cF:=(mg_of X G (aN (aa c9 9))),
  aM:=⟨⟨(aa c9 10),(aa c9 11),(aa c9 12),(aN (aa c9 13))⟩,(aN (aa c9 14)),(aN (aa c0 0)),(aN (aa c0 1)),(aN (aa c9 15)),(aa c9 16),(aN (aa c9 17)),(aa c9 18),(aa c9 19)⟩,
  HY:=(mg_of X G (aN (aa vW 0))),
  yh:=⟨⟨(aa vW 1),(aa vW 2),(aa vW 3),(aN (aa vW 4))⟩,(aN (aa vW 5)),(aN (aa c0 0)),(aN (aa c0 1)),(aN (aa vW 6)),(aa vW 7),(aN (aa vW 8)),(aa vW 9),(aa vW 10)⟩,
  oR:=(mg_of X G (aN (aa vW 11))),
  jH:=⟨⟨(aa vW 12),(aa vW 13),(aa vW 14),(aN (aa vW 15))⟩,(aN (aa vW 16)),(aN (aa c0 0)),(aN (aa c0 1)),(aN (aa vW 17)),(aa vW 18),(aN (aa vW 19)),(aa vX 0),(aa vX 1)⟩,
  fS:=(mg_of X G (aN (aa vX 2))),
  oS:=JY (aa vX 3) (by decide),
  rj:=(aa vX 4),
  rm:=(aa vX 5),
  rq:=(aN (aa c8 16)),
  rA:=(aN (aa c8 19)),
  Cy:=(aa vX 6),
  fT:=⟨(aN (aa vX 7)),(aa vX 8),(aa c4 5)⟩,
  gI:=⟨(aa vX 9),(aN (aa vX 10)),(aa vX 11),(aa vX 12)⟩,
  Cz:=⟨(aa vX 13),(aN (aa vX 14)),(aa vX 15),(aa vX 16)⟩,
  lH:=⟨(aa vX 17),(aN (aa vX 18)),(aa vX 19),(aa c12 0)⟩,
  w9:=(aN (aa c12 1)),
  bw:=x7 (aN (aa c12 2)),
  cu:=x7 (aN (aa c12 3)),
  kr:=x7 (aN (aa c12 4))}
 have t2:Us K mg (NH K):={
  jo:=x7 (aN (aa c12 5)),
  pP:=⟨(aa c9 18),(aN (aa c12 6)),(aa c12 7)⟩,
  pQ:=wK (aa c12 8),
  pR:=⟨(aa c9 18),(aN (aa c12 9)),(aa c12 10)⟩,
  pU:=wK (aa c12 11),
  iJ:=⟨(aa c12 12),(aN (aa c12 13))⟩,
  cP:=⟨AX (aa c12 14),x6 (aa c12 15),(aa c1 17)⟩,
  rB:=⟨AX (aa c12 16),x6 (aa c12 17),(aa c2 18)⟩,
  nE:=⟨AX (aa c12 18),x6 (aa c12 19),(aa c3 19)⟩,
  oU:=(aN (aa vY 0)),
  oV:=(aa vY 1),
  mY:=(aN (aa vY 2)),
  mZ:=(aa vY 3),
  pV:=(aN (aa vY 4)),
  pW:=(aa vY 5),
  nH:=(aN (aa vY 6)),
  nI:=(aa vY 7),
  pX:=(aN (aa vY 8)),
  pY:=(aa vY 9),
  oW:=⟨uc (aa vY 10),(aN (aa vY 11)),(aN (aa c7 4)),(aN (aa c7 7)),(aa vY 12)⟩,
  yi:=⟨(aN (aa c7 2)),(aN (aa c7 3)),(aN (aa c7 4)),(aa vY 13)⟩,
  sV:=(aN (aa vY 14)),
  sW:=(aN (aa vY 15)),
  kB:=(aN (aa vY 16)),
  su:=⟨uc (aa vY 17),(aN (aa vY 18)),(aN (aa c7 12)),(aN (aa c7 15)),(aa vY 19)⟩,
  Bc:=⟨(aN (aa c7 10)),(aN (aa c7 11)),(aN (aa c7 12)),(aa vZ 0)⟩,
  xg:=(aN (aa vZ 1)),
  xh:=(aN (aa vZ 2)),
  lI:=(aN (aa vZ 3)),
  sC:=⟨uc (aa vZ 4),(aN (aa vZ 5)),(aN (aa c8 0)),(aN (aa c8 3)),(aa vZ 6)⟩,
  u7:=⟨(aN (aa c7 18)),(aN (aa c7 19)),(aN (aa c8 0)),(aa vZ 7)⟩,
  xj:=(aN (aa vZ 8)),
  xm:=(aN (aa vZ 9)),
  jl:=(aN (aa vZ 10)),
  sD:=⟨uc (aa vZ 11),(aN (aa vZ 12)),(aN (aa c8 8)),(aN (aa c8 11)),(aa vZ 13)⟩,
  Be:=⟨(aN (aa c8 6)),(aN (aa c8 7)),(aN (aa c8 8)),(aa vZ 14)⟩,
  xo:=(aN (aa vZ 15)),
  xq:=(aN (aa vZ 16)),
  lJ:=(aN (aa vZ 17)),
  u9:=(aN (aa vZ 18)),
  vc:=(aN (aa vZ 19)),
  vf:=(aN (aa S8 0))}
 exact ⟨t0,t1,t2⟩
theorem Kv {K:Frag} {h:Heap} (c:v7 N4 ex h K):Bj K=true:=by
 have cc:=c.more
 unfold ex at cc
 obtain ⟨d0,cc⟩:=fZ cc
 unfold P7 at d0
 obtain ⟨c0,d0⟩:=fZ d0
 obtain ⟨c1,d0⟩:=fZ d0
 have c2:=d0
 obtain ⟨d1,cc⟩:=fZ cc
 unfold P8 at d1
 obtain ⟨c3,d1⟩:=fZ d1
 obtain ⟨c4,d1⟩:=fZ d1
 have c5:=d1
 obtain ⟨d2,cc⟩:=fZ cc
 unfold P9 at d2
 obtain ⟨c6,d2⟩:=fZ d2
 obtain ⟨c7,d2⟩:=fZ d2
 obtain ⟨c8,d2⟩:=fZ d2
 obtain ⟨c9,d2⟩:=fZ d2
 have vW:=d2
 have d3:=cc
 unfold Qa at d3
 obtain ⟨vX,d3⟩:=fZ d3
 obtain ⟨c12,d3⟩:=fZ d3
 obtain ⟨vY,d3⟩:=fZ d3
 obtain ⟨vZ,d3⟩:=fZ d3
 have S8:=d3
 exact (aa S8 1)
end HS
open PySem PySem.W PySem.Calls PyProof.Rows
set_option maxRecDepth 100000 in
set_option maxHeartbeats 0 in
theorem PySem.Challenge.cw_holeshift_k04_sums_of_gaps_and_wrong_par_holds : PySem.Challenge.rw_holeshift_k04_sums_of_gaps_and_wrong_par.Holds := by
 w_on
 refine zW.Q2 fun said=>?_
 refine HS.Eb (S:=zW.lit) (r:=OpenLaw.row PySem.Challenge.rw_holeshift_k04_sums_of_gaps_and_wrong_par) (q:=zW.qv) (H:=zW.hk) (ob:=zW.ob) (M:=zW.LJ) (loose:=zW.names) (d:=HandSHeadRun.topDef (OpenLaw.row PySem.Challenge.rw_holeshift_k04_sums_of_gaps_and_wrong_par).prog 43) (kwd:=[]) (fun s=>HS.Ie)
  (by kernel_rfl) (fun s=>by kernel_rfl) zW.Q4 zW.Q5 zW.Q7 (by kernel_rfl) (by kernel_rfl) (by kernel_rfl) (by rfl) (by first |assumption |decide +kernel) (by decide +kernel) zW.N5 ?hw ?hc
 case hw=>exact zW.Q3
 case hc=>
  refine HS.JZ (l:=PySem.Challenge.rw_holeshift_k04_sums_of_gaps_and_wrong_par) (n:=63) (k:=10) (x := "_law_script") (sp:=fun _=>HS.Cr) rfl (by decide) (by kernel_rfl) (by decide) (by decide +kernel) (by decide +kernel) ?F ?S
  case F=>
   intro w mg fa h Y G S9
   obtain ⟨K,c⟩:=Y
   have hmg:mg ("law" : PySem.Str)=some (.ref fa):=by
    have e:(HandSHeadRun.topDef (OpenLaw.row PySem.Challenge.rw_holeshift_k04_sums_of_gaps_and_wrong_par).prog 43).name=("law" : PySem.Str):=by kernel_rfl
    rw [← e]
    exact S9
   have T:=HS.NC c G
   have e:(zW.NH K).yx=fa:=by
    have z:=T.Le.symm.trans hmg
    cases z
    rfl
   subst e
   refine ⟨K,c.kin,c.sys,HS.Kv c,(zW.NH K).Bm,fun s u=>?_,fun base _ _ TB=>HS.NB (P:=(PySem.Challenge.rw_holeshift_k04_sums_of_gaps_and_wrong_par).prog) (w:=w) T TB⟩
   obtain ⟨⟨oc,od,kV,doc,pm,an,cdv,ct,osl,Wo,_,_⟩,_⟩:=T.HX
   rw [Wo]
   exact .of_eq rfl
  case S=>
   exact fun _ ns hl hz=>⟨ns,rfl,hl,hz,fun _=>rfl⟩
