import PyProof.Rows.All
import Wide.All
import OpenK.AllK
import Wide.FinOn
import PySem.Challenge.RW_fallways_k01_errors_made
import PyProof.StrBlock2
import HandS.ForMost
import HandS.Exc
import HandS.TryOnly
import HandS.TryMany
import HandS.CallSlots
import HandS.Defaults
import HandS.Nested
import HandS.Lambda
import HandS.More
import KE.KDictKeyed
import HandS.SortRule
import HandS.Sort
import KE.KDictDisplayH
import PyProof.DictTable
import HandS.ExcInit
import HandS.Flow
import HandS.TupAny
import HandS.Conv
import HandS.IsInst
import HandS.TupMul
import PyProof.FString5
import KE.KEqDict
import PyProof.NeKinds
import HandS.Deep
import HandS.DictComp
import PyProof.DictTruth
import HandS.Dict
import HandS.List
import HandS.Small
import KE.DataCmp
import KE.SortData
import HandS.SortInts
import HandS.Iter
import HandS.Zip
import HandS.Comp
import HandS.OwnIter
import KE.KDictZip
import HandS.Style
import PyProof.Cells
import HandS.ClsMeth
import HandS.RaiseMore
import HandS.TupLe
import PyProof.Rows.ListMulArg
import KE.GoesMore
import KE.GoesEnum
import PyProof.EnumStmt
import PyProof.DictUpdate
import PyProof.AutoSeq1
import KE.KDictCopyH
import KE.KDictWalk
import HandS.SortKw
import HandS.Words
import HandS.HeadHook4
import KE.KSuper
import KE.KExcSuper
import HandS.ExcField
import HandS.TryElse
import HandS.Finally
import KE.KExcRaise
import KE.KIsAll
import HandS.ExcBuiltin
import HandS.RaiseOp
import PyProof.AutoIntOps
import HandS.MakeKw
import HandS.ExcIs
import HandS.ExcValue
import HandS.HeadNt
import HandS.HeadWalk
import HandS.Head0
import HandS.Head1
import HandS.Head2
import PyProof.ExcBaseAll.Exception
set_option Elab.async false
set_option linter.all false
set_option maxRecDepth 100000
section
set_option maxHeartbeats 4000000
namespace Fx
open PySem PySem.Spec PyProof.Rows L2 He
structure SaysY (fa : List Fa) (fn : List He5.DefA) (tf : List Defn) (ex : PySem.W.Frag→Bool) (h : Heap) (K : PySem.W.Frag) : Prop where
 a : He5.SaysA fa fn K
 more : ex K=true
 hd : ∀ p∈tf,PySem.W.codeHdIn K (cT K p).1 (cT K p).2=true
 out : ∀ p∈tf,K.lookup (cT K p).2=none
 empty : ∀ p∈tf,h.get? (cT K p).2=some { cls:=.none,data:=.fields #[] }
abbrev AlY : Type:=He.AlD × Bool
def obsY (as : List Addr) (fa : List Fa) (fn : List He5.DefA) (tf : List Defn) (ex : PySem.W.Frag→Bool) (g : Addr→Option Obj) : AlY :=
 (He5.obsA fa fn (frT g as),ex (frT g as) && tabsB g tf (frT g as))
def valY (fn : List He5.DefA) : AlY:=(He5.valA fn,true)
theorem saysY_of {as : List Addr} {fa : List Fa} {fn : List He5.DefA} {tf : List Defn} {ex : PySem.W.Frag→Bool} {h : Heap} (e : obsY as fa fn tf ex h.get? = valY fn) : SaysY fa fn tf ex h (frT h.get? as):=by
 have e1 : He5.obsA fa fn (frT h.get? as)=He5.valA fn:=congrArg (fun z : AlY=>z.1) e
 have e2 : (ex (frT h.get? as) && tabsB h.get? tf (frT h.get? as))=true:=congrArg (fun z : AlY=>z.2) e
 rw [Bool.and_eq_true_iff] at e2
 have key : ∀ p∈tf,PySem.W.codeHdIn (frT h.get? as) (cT (frT h.get? as) p).1 (cT (frT h.get? as) p).2=true∧∃ o,h.get? (cT (frT h.get? as) p).2=some o∧emptyTab o=true:=fun p hp=>by
  have z:=List.all_eq_true.mp e2.2 p hp
  rw [Bool.and_eq_true_iff] at z
  refine ⟨z.1,?_⟩
  have z:=z.2
  cases q : h.get? (cT (frT h.get? as) p).2 with
  | none=>rw [q] at z; cases z
  | some o=>rw [q] at z; exact ⟨o,rfl,z⟩
 exact ⟨e1,e2.1,fun p hp=>(key p hp).1,fun p hp=>by
  obtain ⟨_,o,q,z⟩:=key p hp
  exact frT_none q z,fun p hp=>by
  obtain ⟨_,o,q,z⟩:=key p hp
  rw [q,emptyTab_eq z]⟩
def hookY (as : List Addr) (fa : List Fa) (fn : List He5.DefA) (tf : List Defn) (ex : PySem.W.Frag→Bool) : PySem.W.Hook where
 α:=AlY
 obs:=fun s=>obsY as fa fn tf ex s.heap.get?
 val:=fun _=>valY fn
 says:=fun _ h=>∃ K : PySem.W.Frag,K.In h∧SaysY fa fn tf ex h K
 of:=fun _ _ e=>⟨_,frT_in,saysY_of e⟩
 keeps:=fun _ _ _ ⟨K,hK,c⟩ k=>⟨K,PySem.W.Frag.In.keeps hK k,⟨c.a,c.more,c.hd,c.out,fun p hp=>k _ _ (c.empty p hp)⟩⟩
theorem obsY_eq {as : List Addr} {fa : List Fa} {fn : List He5.DefA} {tf : List Defn} {ex : PySem.W.Frag→Bool} {g : Addr→Option Obj} {s : Shared} (h : ∀ a,g a=s.heap.get? a) : obsY as fa fn tf ex g=(hookY as fa fn tf ex).obs s:=by
 have e : g=s.heap.get?:=funext h
 rw [e] <;> rfl
theorem some3 {σ A B C : Type} {E : Option σ} {f : σ→A} {g : σ→B} {k : σ→C} {a : A} {b : B} {c : C} (h1 : E.map f=some a) (h2 : E.map g=some b) (h3 : E.map k=some c) : E.map (fun s=>(f s,g s,k s))=some (a,b,c):=by
 cases E with
 | none=>cases h1
 | some s=>rw [Option.map_some] at *; rw [Option.some.inj h1,Option.some.inj h2,Option.some.inj h3]
theorem some_ob {σ : Type} {E : Option σ} {as : List Addr} {fa : List Fa} {fn : List He5.DefA} {tf : List Defn} {ex : PySem.W.Frag→Bool} {G : σ→Addr→Option Obj}
  (h1 : E.map (fun s=>fa.all fun f=>f.ok (frT (G s) as))=some true) (h2 : E.map (fun s=>fn.all fun d=>d.ok (frT (G s) as))=some true)
  (h3 : E.map (fun s=>fn.map fun d=>He5.fnA (frT (G s) as) (d.at_ (frT (G s) as)))=some (fn.map He5.DefA.val)) (h4 : E.map (fun s=>ex (frT (G s) as) && tabsB (G s) tf (frT (G s) as))=some true) :
  E.map (fun s=>obsY as fa fn tf ex (G s))=some (valY fn):=by
 cases E with
 | none=>cases h1
 | some s =>
  rw [Option.map_some] at *
  have e1:=Option.some.inj h1
  have e2:=Option.some.inj h2
  have e3:=Option.some.inj h3
  have e4:=Option.some.inj h4
  have e : obsY as fa fn tf ex (G s)=((((fa.all fun f=>f.ok (frT (G s) as)) && fn.all fun d=>d.ok (frT (G s) as)),fn.map fun d=>He5.fnA (frT (G s) as) (d.at_ (frT (G s) as))),ex (frT (G s) as) && tabsB (G s) tf (frT (G s) as)):=rfl
  rw [e,e1,e2,e3,e4]; rfl
section
open PySem.W PySem.Calls HandSHeadRun
theorem runEq_of {r : OpenRow} {q : Program} {as : List Addr} {fa : List Fa} {fn : List He5.DefA} {tf : List Defn} {ex : PySem.W.Frag→Bool} {M : Nat} {loose : List Str} {w : World}
  (h1 : ∀ os : OsState,(endF (stepQ (denQ tabQ) r.prog w) M r.prog w os).map (fun s=>looksF r.prog (boot_heap w.params) s.abs)=some true)
  (h2 : ∀ os : OsState,(endF (stepQ (denQ tabQ) r.prog w) M r.prog w os).map (fun s=>seenQ q loose (importedModules r.prog.main.body) (fun s=>xlAt q [] s && recOk r.toRowW.records s) s.abs)=some (openGood q loose))
  (h3 : ∀ os : OsState,(endF (stepQ (denQ tabQ) r.prog w) M r.prog w os).map (fun s=>fa.all fun f=>f.ok (frT (getT s) as))=some true)
  (h4 : ∀ os : OsState,(endF (stepQ (denQ tabQ) r.prog w) M r.prog w os).map (fun s=>fn.all fun d=>d.ok (frT (getT s) as))=some true)
  (h5 : ∀ os : OsState,(endF (stepQ (denQ tabQ) r.prog w) M r.prog w os).map (fun s=>fn.map fun d=>He5.fnA (frT (getT s) as) (d.at_ (frT (getT s) as)))=some (fn.map He5.DefA.val))
  (h6 : ∀ os : OsState,(endF (stepQ (denQ tabQ) r.prog w) M r.prog w os).map (fun s=>ex (frT (getT s) as) && tabsB (getT s) tf (frT (getT s) as))=some true) :
  RunEq r q (hookY as fa fn tf ex) (fun s=>obsY as fa fn tf ex (getT s)) M loose w:=fun os=>some3 (h1 os) (h2 os) (some_ob (h3 os) (h4 os) (h5 os) (h6 os))
end
theorem pair_l {S A B : Type} {o : Option S} {f : S→A} {g : S→B} {a : A} {b : B} (h : o.map (fun s=>(f s,g s))=some (a,b)) : o.map (fun s=>f s)=some a:=by
 cases o with
 | none=>cases h
 | some s=>exact congrArg some (congrArg Prod.fst (Option.some.inj h))
theorem pair_r {S A B : Type} {o : Option S} {f : S→A} {g : S→B} {a : A} {b : B} (h : o.map (fun s=>(f s,g s))=some (a,b)) : o.map (fun s=>g s)=some b:=by
 cases o with
 | none=>cases h
 | some s=>exact congrArg some (congrArg Prod.snd (Option.some.inj h))
end Fx
end
section
namespace Xi
open PySem PySem.Spec PyProof.Rows L2
structure XiV where
 nm : Str
 qn : Str
 s0 : Str
 x0 : Str
 fl : Str
 a1 : Option Expr
 a2 : Option Expr
 q1 : Pos
 q2 : Pos
 p : Fin 9→Pos
 pc : Pos
 tx : Str
 j : Nat
 sc : Scope
 cc : Addr
 cda : Addr
 kV : Value
 doc : Value
 pm : Value
 ct : Value
 an : Option Addr
def xiOf : FuncData→Option XiV
 | ⟨nm,qn,⟨[],[⟨s0,a1,q1⟩,⟨x0,a2,q2⟩],none,[],[],none,[]⟩,.stmts [.Expr (.Call (.Attribute (.Call (.Name sp p0) [] [] p1) ini p2) [.Constant (.str tx) j pc] [] p3) p4,.Assign [.Attribute (.Name s1 p5) fl p6] (.Name x1 p7) p8],sc,g,[(ccn,cc)],.none,kV,doc,pm,an,.ref cda,ct,b⟩ =>
  if (sp == ("super" : Str) && (ini == ("__init__" : Str) && (s1 == s0 && (x1 == x0 && (ccn == ("__class__" : Str) && (g == mainGlobals && b == builtinsNs))))))=true then
   some ⟨nm,qn,s0,x0,fl,a1,a2,q1,q2,fun i=>match i.val with | 0=>p0 | 1=>p1 | 2=>p2 | 3=>p3 | 4=>p4 | 5=>p5 | 6=>p6 | 7=>p7 | _=>p8,pc,tx,j,sc,cc,cda,kV,doc,pm,ct,an⟩
  else none
 | _=>none
def xsB (v : XiV) : Bool :=
 decide (v.sc.names.lookup ("super" : Str)=some .globalImplicit) && (decide (v.sc.names.lookup ("__class__" : Str)=some .free) && (decide (v.sc.names.lookup v.s0=some .local) && (decide (v.sc.names.lookup v.x0=some .local) &&
  (!(v.s0 == v.x0) && (!(v.s0 == ("__debug__" : Str)) && (!(v.x0 == ("__debug__" : Str)) && (decide (v.sc.kind = .function) && (!v.sc.isGenerator && (!v.sc.isCoroutine && ((v.sc.names.all fun x=>!decide (x.2 = .cell)) && ((v.p 2).endLine == (v.p 3).line)))))))))))
def xcB (K : PySem.W.Frag) (C : Addr) : Bool:=match K.lookup C with
 | some ⟨.type "type",_,.cls cd,sl⟩=>(match cd.mro,sl.toList with
  | .ref C' :: bm,[_,_,_,_,some (.builtin n),_]=>C' == C && (n == "ValueError.__new__" && (!cd.hasDel && (cd.hasDict && (PySem.HandSPX.refsVE bm && PySem.W.alongIn K "__init__" bm == some (some (.builtin "ValueError.__init__"))))))
  | _,_=>false)
 | _=>false
def cdB (file : Str) (K : PySem.W.Frag) (a : Addr) : Bool:=match K.lookup a with
 | some ⟨_,_,.fields vs,_⟩=>(match vs[2]? with | some (Value.str f _)=>file == f | _=>false)
 | _=>false
def clB (K : PySem.W.Frag) (a C : Addr) : Bool:=match K.lookup a with
 | some ⟨_,_,.cell (some (.ref C')),_⟩=>C' == C
 | _=>false
def fnB (file : Str) (K : PySem.W.Frag) (C : Addr) (fl : Str) (f : Addr) : Bool:=match K.lookup f with
 | some ⟨_,_,.func fd,_⟩=>(match xiOf fd with
  | some v=>xsB v && (decide (v.fl=fl) && (cdB file K v.cda && (PySem.W.codeIn K (.ref v.cda) v.qn && clB K v.cc C)))
  | _=>false)
 | _=>false
def xiB (file : Str) (K : PySem.W.Frag) (C : Addr) (fl : Str) : Bool :=
 fnB file K C fl (He.ma K C "__init__") && (xcB K C && (decide (PySem.W.nsIn K cStatics "thirdparty.any" = some none) && (decide (PySem.W.subIn K (.ref C) (.type "ValueError")=some true) && (decide (PySem.W.mroIn K C (.ref C)=some true) &&
  (decide (PySem.W.findIn K (.ref C) "__setattr__" = some (some (.builtin "object.__setattr__"))) && (decide (PySem.W.findIn K (.ref C) fl=some none) && (decide (PySem.W.findIn K (.ref C) "__init__" = some (some (.ref (He.ma K C "__init__")))) &&
  (decide (PySem.W.typeIn K (.ref (He.ma K C "__init__"))=some (.type "function")) && (xfB K C && (decide (PySem.W.typeIn K (.ref C)=some (.type "type")) && PySem.W.keepIn K (.ref C)))))))))))
end Xi
end
section
namespace Xi
open PySem PySem.Spec PyProof.Rows L2
def xnB (K : PySem.W.Frag) (C : Addr) (n : Str) : Bool:=match K.lookup (He.ma K C "__init__") with
 | some o=>(match o.data with
  | .func fd=>(match xiOf fd with
   | some v=>v.x0 == n
   | none=>false)
  | _=>false)
 | none=>false
end Xi
end
section
namespace Fx
open PySem PySem.Spec PyProof.Rows L2
def excCB (K : PySem.W.Frag) (D : Addr) : Bool :=
 decide (PySem.W.findIn K (.ref D) "__getattribute__" = some (some (.builtin "BaseException.__getattribute__"))) && (decide (PySem.W.findIn K (.ref D) "__getattr__" = some none) && (decide (PySem.W.subIn K (.ref D) (.type "BaseException")=some true) && (PySem.W.hasDictIn K D &&
  (decide (PySem.W.findIn K (.ref D) "__class__" = some (some (.builtin "object.__class__"))) && (decide (PySem.W.specialIn K (.builtin "object.__class__") "__get__" = some (some (.builtin "getset_descriptor.__get__"))) && (decide (PySem.W.takesIn K (.builtin "object.__class__")=some true) && (decide (PySem.W.mroIn K D (.type "object")=some true) && xfB K D)))))))
def excvB (K : PySem.W.Frag) (l : List (Nat × Addr)) : Bool:=l.all fun p=>excCB K p.2
def isxB (K : PySem.W.Frag) (ex : Nat→Nat→Bool) (d : Nat) (cv : Value) (l : List (Nat × Addr)) : Bool:=l.all fun p=>decide (PySem.W.kitOne K (.ref p.2) cv=some (ex p.1 d))
def xfnB (K : PySem.W.Frag) (n : Str) (l : List (Nat × Addr)) : Bool:=l.all fun p=>decide (PySem.W.findIn K (.ref p.2) n=some none)
end Fx
end
section
set_option maxHeartbeats 0
namespace K01
open PySem PySem.Spec PyProof.Rows L2 Fx
def exX : Nat→Nat→Bool:=fun c d=>match c with
 | 100=>[100,116,112].contains d
 | 101=>[101,112].contains d
 | 102=>[102,100,116,112].contains d
 | 103=>[103,100,116,112].contains d
 | 104=>[104,100,116,112].contains d
 | 105=>[105,100,116,112].contains d
 | 106=>[106,100,116,112].contains d
 | 107=>[107,100,116,112].contains d
 | 108=>[108,100,116,112].contains d
 | 109=>[109,100,116,112].contains d
 | 110=>[110,100,116,112].contains d
 | 111=>[111,100,116,112].contains d
 | 112=>[112].contains d
 | 113=>[113,114,112].contains d
 | 114=>[114,112].contains d
 | 115=>[115,112].contains d
 | 116=>[116,112].contains d
 | 117=>[117,112].contains d
 | _=>false
def exvL (K : PySem.W.Frag) : List (Nat × Addr):=[(102,He.ga K "BadName"),(103,He.ga K "BadValue"),(106,He.ga K "NoMoment"),(109,He.ga K "BadPlace"),(110,He.ga K "NotTruth"),(104,He.ga K "BadLimit"),(105,He.ga K "NoPage"),(107,He.ga K "BadFall"),(108,He.ga K "BadGuard"),(101,He.ga K "Held"),(111,He.ga K "Beyond")]
def top (i : Nat) : Stmt:=PySem.Challenge.pw_fallways_k01_errors_made.main.body.getD i (.Pass ⟨0,0,0,0⟩)
abbrev zbJ : Stmt:=top 14
abbrev zcA : Stmt:=top 15
abbrev zcz : Stmt:=top 16
abbrev zbK : Stmt:=top 17
abbrev zc8 : Stmt:=top 18
abbrev zaj : Stmt:=top 19
abbrev s_law : Stmt:=top 20
def nms : List Str:=["00","01","02","03","04","05","06","07","08","09","010","011","012","013","014","015","016","017","018","019","020","021","022","023","024","name","value","limit","moment","fall","step","place"]
abbrev zdP : Str:="/claim/cut.py"
abbrev pw : Program:=PySem.Challenge.pw_fallways_k01_errors_made
def zho : He5.DefA:=⟨(fun K=>(He.ga K "_law_source")),"_law_source","_law_source",defArgs zbJ,defBody zbJ,defScope zbJ,[],[]⟩
def zlh : He5.DefA:=⟨(fun K=>(He.ga K "_law_draw")),"_law_draw","_law_draw",defArgs zcA,defBody zcA,defScope zcA,[],[]⟩
def zlg : He5.DefA:=⟨(fun K=>(He.ga K "_law_same")),"_law_same","_law_same",defArgs zcz,defBody zcz,defScope zcz,[],[]⟩
def zhp : He5.DefA:=⟨(fun K=>(He.ga K "_law_object")),"_law_object","_law_object",defArgs zbK,defBody zbK,defScope zbK,[],[]⟩
def ziQ : He5.DefA:=⟨(fun K=>(He.ga K "_law_kinds")),"_law_kinds","_law_kinds",defArgs zc8,defBody zc8,defScope zc8,[],[]⟩
def ziP : He5.DefA:=⟨(fun K=>(He.ga K "_law_pairs")),"_law_pairs","_law_pairs",defArgs zaj,defBody zaj,defScope zaj,[],[]⟩
def d_law : He5.DefA:=⟨(fun K=>(He.ga K "law")),"law","law",defArgs s_law,defBody s_law,defScope s_law,[],[]⟩
def fn : List He5.DefA:=[zho,zlh,zlg,zhp,ziQ,ziP,d_law]
def fa : List He.Fa:=[.free "Exception",.free "LookupError",.free "RuntimeError",.free "ValueError",.free "all",.free "bool",.free "int",.free "isinstance",.free "len",.free "list",.free "min",.free "range",.free "super",.free "tuple",.free "zip",.glo "_law_source",.glo "_law_draw",.glo "_law_same",.glo "_law_object",.glo "_law_kinds",.glo "_law_pairs",.glo "law",.glo "BadName",.glo "BadValue",.glo "NoMoment",.glo "BadPlace",.glo "NotTruth",.glo "BadLimit",.glo "NoPage",.glo "BadFall",.glo "BadGuard",.glo "Held",.glo "Beyond",.keep "Held",.keep "Beyond",.glo "FallError"]
def exL : List (PySem.W.Frag→Bool):=[fun K=>Xi.xiB zdP K (He.ga K "BadName") "name",fun K=>Xi.xiB zdP K (He.ga K "BadValue") "value",fun K=>Xi.xiB zdP K (He.ga K "NoMoment") "moment",fun K=>Xi.xiB zdP K (He.ga K "BadPlace") "place",fun K=>Xi.xiB zdP K (He.ga K "NotTruth") "value",fun K=>Xi.xiB zdP K (He.ga K "BadLimit") "limit",fun K=>Xi.xiB zdP K (He.ga K "NoPage") "name",fun K=>Xi.xiB zdP K (He.ga K "BadFall") "fall",fun K=>Xi.xiB zdP K (He.ga K "BadGuard") "step",fun K=>PySem.W.excIn K (He.ga K "Held") [.type "Exception",.type "BaseException",.type "object"] "Exception.__new__",fun K=>decide (PySem.W.subIn K (.ref (He.ga K "Held")) (.type "BaseException")=some true),fun K=>decide (PySem.W.typeIn K (.ref (He.ga K "Held"))=some (.type "type")),fun K=>PySem.W.excIn K (He.ga K "Beyond") He.veBase "ValueError.__new__",fun K=>decide (PySem.W.subIn K (.ref (He.ga K "Beyond")) (.type "BaseException")=some true),fun K=>decide (PySem.W.typeIn K (.ref (He.ga K "Beyond"))=some (.type "type")),fun K=>Xi.xnB K (He.ga K "BadName") "name",fun K=>Xi.xnB K (He.ga K "BadValue") "value",fun K=>Xi.xnB K (He.ga K "NoMoment") "moment",fun K=>Xi.xnB K (He.ga K "BadPlace") "place",fun K=>Xi.xnB K (He.ga K "NotTruth") "value",fun K=>Xi.xnB K (He.ga K "BadLimit") "limit",fun K=>Xi.xnB K (He.ga K "NoPage") "name",fun K=>Xi.xnB K (He.ga K "BadFall") "fall",fun K=>Xi.xnB K (He.ga K "BadGuard") "step",fun K=>excvB K (exvL K),fun K=>isxB K exX 107 (.ref (He.ga K "BadFall")) (exvL K),fun K=>isxB K exX 108 (.ref (He.ga K "BadGuard")) (exvL K),fun K=>isxB K exX 104 (.ref (He.ga K "BadLimit")) (exvL K),fun K=>isxB K exX 102 (.ref (He.ga K "BadName")) (exvL K),fun K=>isxB K exX 109 (.ref (He.ga K "BadPlace")) (exvL K),fun K=>isxB K exX 103 (.ref (He.ga K "BadValue")) (exvL K),fun K=>isxB K exX 111 (.ref (He.ga K "Beyond")) (exvL K),fun K=>isxB K exX 101 (.ref (He.ga K "Held")) (exvL K),fun K=>isxB K exX 106 (.ref (He.ga K "NoMoment")) (exvL K),fun K=>isxB K exX 105 (.ref (He.ga K "NoPage")) (exvL K),fun K=>isxB K exX 110 (.ref (He.ga K "NotTruth")) (exvL K),fun K=>isxB K exX 100 (.ref (He.ga K "FallError")) (exvL K),fun K=>isxB K exX 116 (.type "ValueError") (exvL K),fun K=>isxB K exX 114 (.type "LookupError") (exvL K),fun K=>isxB K exX 115 (.type "RuntimeError") (exvL K),fun K=>isxB K exX 112 (.type "Exception") (exvL K),fun K=>xfnB K "name" (exvL K),fun K=>xfnB K "value" (exvL K),fun K=>xfnB K "moment" (exvL K),fun K=>xfnB K "place" (exvL K),fun K=>xfnB K "limit" (exvL K),fun K=>xfnB K "fall" (exvL K),fun K=>xfnB K "step" (exvL K)]
def ex (K : PySem.W.Frag) : Bool:=exL.all fun b=>b K
def tf : List He.Defn:=[("_law_pairs",none)]
def names : List PySem.Str:=(["FallError","Held","BadName","BadValue","BadLimit","NoPage","NoMoment","BadFall","BadGuard","BadPlace"] : List PySem.Str) ++ (["NotTruth","Beyond","_law_source","_law_draw","_law_same","_law_object","_law_kinds","_law_pairs"] : List PySem.Str)
abbrev R : PySem.W.OpenRow:=PySem.W.OpenLaw.row PySem.Challenge.rw_fallways_k01_errors_made
abbrev qv : Program:=PySem.W.view R.prog [20]
def asL : List Addr:=List.range 1300
abbrev hk : PySem.W.Hook:=hookY asL fa fn tf ex
def ob (s : PySem.W.SharedT) : AlY:=obsY asL fa fn tf ex (HandSHeadRun.getT s)
theorem ob_eq (s : PySem.W.SharedT) : ob s=hk.obs s.abs:=obsY_eq (HandSHeadRun.getT_eq s)
section
open PySem.W PySem.Calls HandSHeadRun
theorem run_ls (w : World) (os : OsState) : (HandSHeadRun.endF (HandSHeadRun.stepQ (HandSHeadRun.denQ HandSHeadRun.tabQ) R.prog w) 20000 R.prog w os).map (fun s=>(looksF R.prog (boot_heap w.params) s.abs,seenQ qv names (importedModules R.prog.main.body) (fun s=>xlAt qv [] s && recOk R.toRowW.records s) s.abs))=some ((true,openGood qv names)):=by kernel_rfl
end
section
open He
theorem run_fa (w : World) (os : OsState) : (HandSHeadRun.endF (HandSHeadRun.stepQ (HandSHeadRun.denQ HandSHeadRun.tabQ) R.prog w) 20000 R.prog w os).map (fun s=>fa.all fun f=>f.ok (frT (HandSHeadRun.getT s) asL))=some (true):=by kernel_rfl
end
section
open He
theorem run_fn (w : World) (os : OsState) : (HandSHeadRun.endF (HandSHeadRun.stepQ (HandSHeadRun.denQ HandSHeadRun.tabQ) R.prog w) 20000 R.prog w os).map (fun s=>fn.all fun d=>d.ok (frT (HandSHeadRun.getT s) asL))=some (true):=by kernel_rfl
end
section
open He
theorem run_fm (w : World) (os : OsState) : (HandSHeadRun.endF (HandSHeadRun.stepQ (HandSHeadRun.denQ HandSHeadRun.tabQ) R.prog w) 20000 R.prog w os).map (fun s=>fn.map fun d=>He5.fnA (frT (HandSHeadRun.getT s) asL) (d.at_ (frT (HandSHeadRun.getT s) asL)))=some (fn.map He5.DefA.val):=by kernel_rfl
end
section
open He
theorem run_ex (w : World) (os : OsState) : (HandSHeadRun.endF (HandSHeadRun.stepQ (HandSHeadRun.denQ HandSHeadRun.tabQ) R.prog w) 20000 R.prog w os).map (fun s=>ex (frT (HandSHeadRun.getT s) asL) && tabsB (HandSHeadRun.getT s) tf (frT (HandSHeadRun.getT s) asL))=some (true):=by kernel_rfl
end
section
open PySem.W PySem.Calls HandSHeadRun
theorem run_looks (w : World) (os : OsState) : (HandSHeadRun.endF (HandSHeadRun.stepQ (HandSHeadRun.denQ HandSHeadRun.tabQ) R.prog w) 20000 R.prog w os).map (fun s=>looksF R.prog (boot_heap w.params) s.abs)=some (true):=Fx.pair_l (run_ls w os)
end
section
open PySem.W PySem.Calls HandSHeadRun
theorem run_seen (w : World) (os : OsState) : (HandSHeadRun.endF (HandSHeadRun.stepQ (HandSHeadRun.denQ HandSHeadRun.tabQ) R.prog w) 20000 R.prog w os).map (fun s=>seenQ qv names (importedModules R.prog.main.body) (fun s=>xlAt qv [] s && recOk R.toRowW.records s) s.abs)=some (openGood qv names):=Fx.pair_r (run_ls w os)
end
theorem run (w : World) : HandSHeadRun.RunEq R qv hk ob 20000 names w:=runEq_of (r:=R) (q:=qv) (as:=asL) (fa:=fa) (fn:=fn) (tf:=tf) (ex:=ex) (M:=20000) (loose:=names) (w:=w) (run_looks w) (run_seen w) (run_fa w) (run_fn w) (run_fm w) (run_ex w)
end K01
end
section
namespace Fx
open PySem

inductive Val where
 | none | bool (b : Bool) | int (i : Int) | str (s : Str)
 | tup (b : Bool) (l : List Val) | lst (l : List Val) | dct (l : List (Val × Val))
 | ref (a : Nat) | fn (g : Nat) | clo (l : Nat) (cs : List Nat)
 /-- an exception held as a value: its class,its field,what is in it -/
 | exc (c f : Nat) (as : List Val)
 deriving Inhabited
inductive Slot where
 | un | val (v : Val) | own (v : Val) | own2 (v : Val) | cell (c : Nat) | exc (c : Nat) (v : Option Val)
 deriving Inhabited
inductive Ob where
 | inst (c : Nat) (fs : List (Nat × Slot))
 | hl (l : List Val) | hd (l : List (Val × Val))
 deriving Inhabited
structure MH where
 objs : List Ob
 cells : List (Option Val)
 deriving Inhabited
abbrev Fr:=List Slot
inductive Res (α : Type) where
 | ok (a : α) (σ : Fr) (h : MH) | exn (c : Nat) (x : Option Val) (σ : Fr) (h : MH) | stuck
inductive CRes where
 | ok (v : Val) (outs : List Slot) (h : MH) | exn (c : Nat) (x : Option Val) (outs : List Slot) (h : MH) | stuck
inductive SRes where
 | nx (σ : Fr) (h : MH) | brk (σ : Fr) (h : MH) | cont (σ : Fr) (h : MH) | ret (v : Val) (σ : Fr) (h : MH)
 | exn (c : Nat) (x : Option Val) (σ : Fr) (h : MH) | stuck
inductive Tgt where
 | fn (g : Nat) | lam (l : Nat) (cs : List Nat)
abbrev Callee:=Tgt→List Slot→MH→CRes
inductive Ty where
 | int | bool | str | tup | lst | dct
 deriving DecidableEq
inductive Prim where
 | add | sub | mul | mod | fdiv | pow | neg
 | eq | ne | lt | le | gt | ge | isin | notin | isNone | notNone
 | isinst (ts : List Ty)
 | len | item | slice (lo hi : Bool) | get
 | vals | sortRB | list | tuple | dict | sorted | sum | min2 | max2 | max1 | all | any | toInt | toStr
 /-- x[::-1] -/
 | rev
 /-- tuple * number,text * number,text + text,x is True -/
 | mulT | mulS | addS | isTrue
 /-- <= of rows of numbers at any depth -/
 | leD
 /-- tuple(list),its kind not told -/
 | tupleF
 deriving DecidableEq
inductive Pat where
 | var (i : Nat) | cvar (i : Nat) | tup (ps : List Pat)
mutual
inductive Exp where
 | lit (v : Val)
 | var (i : Nat) | mvar (i : Nat) | cvar (i : Nat)
 | fld (e : Exp) (f : Nat) | fldm (e : Exp) (f : Nat)
 | excf (i : Nat)
 /-- isinstance of a caught exception -/
 | exis (i d : Nat)
 /-- exceptions as values: made of nothing,of a thing; isinstance; the field -/
 | mkx0 (c f : Nat) | mkx (c f : Nat) (e : Exp) | isx (d : Nat) (e : Exp) | xfld (f : Nat) (e : Exp)
 | prim (p : Prim) (os : Opds)
 /-- o.get(k,d) -/
 | dget (o : Opds) (k d : Exp)
 | and (a b : Exp) | or (a b : Exp) | not (a : Exp)
 | ifx (c a b : Exp)
 | chain (p q : Prim) (a b c : Exp)
 | tup (es : Exps) | lst (es : Exps) | box (e : Exp) | dct (ks vs : Exps)
 | call (g : Nat) (args : Args) | callk (g : Nat) (args : Args) (ix : List Nat)
 | new (c : Nat) (args : Args) (ix : List Nat)
 | meth (e : Exp) (m : Nat) (args : Args) (ix : List Nat)
 | callv (e : Exp) (args : Args)
 /-- a call on frozen copies,that tells a flat value -/
 | callF (g : Nat) (es : Exps)
 | lam (l : Nat) (caps : List Nat)
 | iter (it : Iter)
 | comp (elt : Exp) (own : List Nat) (pat : Pat) (it : Iter) (ifs : Exps)
 | comp2 (elt : Exp) (own : List Nat) (pat : Pat) (it : Iter) (own2 : List Nat) (pat2 : Pat) (it2 : Iter) (ifs : Exps)
 /-- what is walked sees the frame's cells,the rest does not -/
 | hcomp (elt : Exp) (own : List Nat) (pat : Pat) (it : Iter) (ifs : Exps)
 /-- an element makes lambdas: the target at j and what stands at ks are cells within -/
 | lcomp (elt : Exp) (j : Nat) (ks : List Nat) (it : Iter)
 -- the same,the cells of the slots us seen in the block
 | lcompS (elt : Exp) (j : Nat) (ks us : List Nat) (it : Iter)
 /-- an element may raise -/
 | compx (elt : Exp) (own : List Nat) (pat : Pat) (it : Iter)
 /-- // by what is zero: c is raised -/
 | zdiv (c : Nat) (a b : Exp)
 /-- the frame's cells are not seen meanwhile -/
 | hide (e : Exp)
 | peek (e : Exp)
 /-- the thing at e of the list at i,taken out -/
 | pop (i : Nat) (e : Exp)
 /-- the texts that are the keys of the dict at i,listed,each by way of j -/
 | keysS (i j : Nat)
 /-- over a list or a dict that may stand in the heap -/
 | comph (elt : Exp) (own : List Nat) (pat : Pat) (x : Exp) (ifs : Exps)
 | comp2h (elt : Exp) (own : List Nat) (pat : Pat) (x : Exp) (own2 : List Nat) (pat2 : Pat) (x2 : Exp) (ifs : Exps)
inductive Exps where
 | nil | cons (e : Exp) (es : Exps)
inductive Opds where
 | nil | e (x : Exp) (r : Opds) | b (i : Nat) (r : Opds) | bf (x : Exp) (f : Nat) (r : Opds)
inductive Args where
 | nil | e (x : Exp) (r : Args) | p (i : Nat) (r : Args) | f (x : Exp) (r : Args)
inductive Iter where
 | e (x : Exp) | zip (es : Exps) | enum (x : Exp) | range (es : Exps)
 /-- zip of lists and tuples,two or three -/
 | zipM (es : Exps)
end

inductive PTar where
 | pat (p : Pat) | own (i : Nat) | own2 (i : Nat)
inductive Plc where
 | slot (i : Nat) | fld (e : Exp) (f : Nat) | val (e : Exp)
mutual
inductive Stm where
 | asg (p : Pat) (e : Exp)
 | setO (i : Nat) (e : Exp)
 | setO2 (i : Nat)
 | par (ts : List Nat) (as : Args)
 | aug (i : Nat) (e : Exp)
 | setF (o : Exp) (f : Nat) (e : Exp) | setFO (o : Exp) (f : Nat) (e : Exp)
 | setI (p : Plc) (k e : Exp)
 | append (p : Plc) (e : Exp) | extend (p : Plc) (e : Exp) | update (p : Plc) (e : Exp) | clear (p : Plc) | reverse (p : Plc)
 | app2 (i : Nat) (e : Exp) | new2 (i : Nat)
 | expr (e : Exp)
 | ite (c : Exp) (a b : Stms)
 | while (c : Exp) (b : Stms)
 | for (p : Pat) (it : Iter) (b : Stms)
 | forh (p : Pat) (x : Exp) (b : Stms)
 /-- for at,x in enumerate(..): of a list in the heap or by value -/
 | forhe (p : Pat) (x : Exp) (b : Stms)
 | ret (e : Exp) | retO (i : Nat)
 /-- a tuple is handed back,some of its parts from slots that alone hold them -/
 | retT (ms : List (Option Nat)) (es : Exps)
 | asgT (ts : List PTar) (e : Exp)
 | raise (c : Nat) (es : Exps)
 | try (b : Stms) (hs : Hdls)
 /-- try: b; except d: s; if e: raise -/
 | tryR (b : Stms) (d : Nat) (s : Stms) (e : Exp)
 | pass | brk | cont | never
 | reraise
 | scrub (keep : List Nat)
 /-- x,y = [],e; for p in it: x.append(z): x is a cell -/
 | fill (i j : Nat) (y : Exp) (p : Pat) (it : Iter) (z : Exp)
inductive Stms where
 | nil | cons (s : Stm) (r : Stms)
inductive Hdls where
 | nil | cons (c : Nat) (bind : Option Nat) (b : Stms) (r : Hdls)
end

def b2i (b : Bool) : Int:=if b then 1 else 0
mutual
/-- Python's == of plain data -/
def peq : Val→Val→Bool
 | .none,.none=>true
 | .bool a,.bool b=>a == b
 | .bool a,.int j=>decide (b2i a=j)
 | .int i,.bool b=>decide (i=b2i b)
 | .int i,.int j=>decide (i=j)
 | .str a,.str b=>decide (a=b)
 | .tup _ a,.tup _ b=>peqs a b
 | .lst a,.lst b=>peqs a b
 | _,_=>false
def peqs : List Val→List Val→Bool
 | [],[]=>true
 | a :: as,b :: bs=>peq a b && peqs as bs
 | _,_=>false
end
mutual
/-- plain data of a depth -/
def isPD : Nat→Val→Bool
 | _,.none=>true
 | _,.bool _=>true
 | _,.int _=>true
 | _,.str s=>PyData.strOk s
 | 0,_=>false
 | n + 1,.tup _ l=>znU n l
 | n + 1,.lst l=>znU n l
 | _,_=>false
def znU : Nat→List Val→Bool
 | _,[]=>true
 | n,a :: as=>isPD n a && znU n as
end
mutual
/-- rows of numbers that can be compared,place by place -/
def alkV : Val→Val→Bool
 | .int _,.int _=>true
 | .tup _ l,.tup _ m=>alkVs l m
 | .lst l,.lst m=>alkVs l m
 | _,_=>false
def alkVs : List Val→List Val→Bool
 | a :: l,b :: m=>alkV a b && alkVs l m
 | _,_=>true
end
mutual
/-- a < b,of such rows -/
def ltV : Val→Val→Bool
 | .int i,.int j=>decide (i < j)
 | .tup _ l,.tup _ m=>ltVs l m
 | .lst l,.lst m=>ltVs l m
 | _,_=>false
def ltVs : List Val→List Val→Bool
 | a :: l,b :: m=>if peq a b then ltVs l m else ltV a b
 | [],_ :: _=>true
 | _,[]=>false
end
mutual
/-- the same thing,told by its parts; dicts where both are empty -/
def slfV : Nat→Val→Val→Bool
 | _,.none,.none=>true
 | _,.bool a,.bool b=>decide (a=b)
 | _,.int a,.int b=>decide (a=b)
 | _,.str a,.str b=>decide (a=b)
 | _,.dct [],.dct []=>true
 | n + 1,.tup _ l,.tup _ m=>zhD n l m
 | n + 1,.lst l,.lst m=>zhD n l m
 | _,_,_=>false
def zhD : Nat→List Val→List Val→Bool
 | _,[],[]=>true
 | n,a :: l,b :: m=>slfV n a b && zhD n l m
 | _,_,_=>false
end
def zaF : Nat:=50
def zba : Val→Bool
 | .none=>true
 | .bool _=>true
 | .int _=>true
 | .str _=>true
 | _=>false
mutual
/-- what may be a key: plain data without lists -/
def isKey : Nat→Val→Bool
 | _,.none=>true
 | _,.bool _=>true
 | _,.int _=>true
 | _,.str _=>true
 | 0,_=>false
 | n + 1,.tup _ l=>isKeys n l
 | _,_=>false
def isKeys : Nat→List Val→Bool
 | _,[]=>true
 | n,a :: as=>isKey n a && isKeys n as
end
def kMax : Nat:=8
def isTup : Val→Bool
 | .tup _ _=>true
 | _=>false
def isKs : Val→Bool
 | .int _=>true
 | .str _=>true
 | _=>false
def dOk (l : List (Val × Val)) (k : Val) : Bool:=isKs k && l.all fun p=>isKs p.1
def dOks (l : List (Val × Val)) (r : List (Val × Val)) : Bool:=l.all (fun p=>isKs p.1) && r.all fun p=>isKs p.1
def isKn (k : Val) : Bool:=isTup k && isKey kMax k
def dOkN (l : List (Val × Val)) (k : Val) : Bool:=isKn k && l.all fun p=>isKn p.1
def dOksN (l : List (Val × Val)) (r : List (Val × Val)) : Bool:=l.all (fun p=>isKn p.1) && r.all fun p=>isKn p.1
def dOkA (l : List (Val × Val)) (k : Val) : Bool:=dOk l k || dOkN l k
def dOksA (l : List (Val × Val)) (r : List (Val × Val)) : Bool:=dOks l r || dOksN l r
mutual
/-- the hash of a nested tuple of ints -/
def nHash : Val→Option Int
 | .bool b=>some (hashInt (if b=true then 1 else 0))
 | .int i=>some (hashInt i)
 | .tup _ l=>(zfb l).map fun hs=>reduceHash (Builtin.Tuple.tupleHashOf hs)
 | _=>Option.none
def zfb : List Val→Option (List Int)
 | []=>some []
 | a :: as=>match nHash a,zfb as with
  | some h,some hs=>some (h :: hs)
  | _,_=>Option.none
end
def nApart (l r : List (Val × Val)) : Bool:=!l.isEmpty || match zfb (r.map (·.1)) with
 | some hs=>decide hs.Nodup
 | Option.none=>false
def dget (l : List (Val × Val)) (k : Val) : Option Val:=(l.find? fun p=>peq p.1 k).map (·.2)
def dput (l : List (Val × Val)) (k v : Val) : List (Val × Val):=if l.any fun p=>peq p.1 k then l.map fun p=>if peq p.1 k then (p.1,v) else p else l ++ [(k,v)]
def zpT (l : List (Val × Val)) : List (Val × Val)→List (Val × Val)
 | []=>l
 | (k,v) :: r=>zpT (dput l k v) r
def truthy : Val→Option Bool
 | .none=>some false
 | .bool b=>some b
 | .int i=>some (decide (i≠0))
 | .str s=>if s.length≤16777216 then some (decide (s.length≠0)) else Option.none
 | .tup _ l=>some (!l.isEmpty)
 | .lst l=>some (!l.isEmpty)
 | _=>Option.none
def isPlain : Val→Bool
 | .none=>true
 | .bool _=>true
 | .int _=>true
 | .str _=>true
 | .tup _ _=>true
 | .lst _=>true
 | .dct l=>l.all fun p=>isKs p.1
 | _=>false
def eqInt : Val→Option Val→Bool
 | .int i,some (.int j)=>decide (i=j)
 | _,_=>false
def eqDct : Val→Val→Bool
 | .dct l,.dct m=>decide (l.length=m.length) && ((l.all fun p=>isKs p.1 && eqInt p.2 (dget m p.1)) && m.all fun p=>isKs p.1)
 | _,_=>false
def zdS : Val→Ty→Bool
 | .bool _,.int=>true
 | .bool _,.bool=>true
 | .int _,.int=>true
 | .str _,.str=>true
 | .tup _ _,.tup=>true
 | .lst _,.lst=>true
 | .dct _,.dct=>true
 | _,_=>false
def strLe (a b : Str) : Bool:=decide (¬ b.cps.toList < a.cps.toList)
def ixAt (n : Nat) (i : Int) : Option Nat :=
 if 0≤i then (if i < n then some i.toNat else Option.none) else if -(n : Int)≤i then some (i + n).toNat else Option.none
def cutIx (n d : Nat) : Option Int→Nat
 | Option.none=>d
 | some v=>if v < 0 then (v + (n : Int)).toNat else min v.toNat n
def cutL {α : Type} (l : List α) (lo hi : Option Int) : List α :=
 (l.drop (cutIx l.length 0 lo)).take (cutIx l.length l.length hi - cutIx l.length 0 lo)
def pairsOf : List Val→Option (List (Val × Val))
 | []=>some []
 | .tup _ [k,v] :: r=>if isKey kMax k then (pairsOf r).map ((k,v) :: ·) else Option.none
 | _ :: _=>Option.none
def sumOf : List Val→Option Int
 | []=>some 0
 | .int i :: r=>(sumOf r).map (i + ·)
 | _ :: _=>Option.none
def maxOf : List Val→Option Int
 | []=>Option.none
 | [.int i]=>some i
 | .int i :: r=>(maxOf r).map fun m=>if m > i then m else i
 | _ :: _=>Option.none
def allOf : List Val→Option Bool
 | []=>some true
 | .bool b :: r=>(allOf r).map fun c=>b && c
 | _ :: _=>Option.none
def anyOf : List Val→Option Bool
 | []=>some false
 | .bool b :: r=>(anyOf r).map fun c=>b || c
 | _ :: _=>Option.none
/- the order of sorted keys: ints,texts,tuples of like shape -/
def line : Nat:=16777216
def zcj (l : List Val) : Option Val:=if l.length≤line then some (.lst l) else Option.none
def zlP (l : List Val) : Option Val:=if l.length≤line then some (.tup false l) else Option.none
def small (i : Int) : Bool:=decide (-(2 ^ 64) < i∧i < 2 ^ 64)
def seqOf : Val→Option (List Val)
 | .tup _ l=>some l
 | .lst l=>some l
 | .dct l=>if l.all fun p=>isKs p.1 then some (l.map (·.1)) else Option.none
 | .str s=>some (s.cps.toList.map fun c=>.str ⟨#[c]⟩)
 | _=>Option.none
def strsOf : List Val→Option (List Str)
 | []=>some []
 | .str s :: r=>(strsOf r).map (s :: ·)
 | _ :: _=>Option.none
def intsOf : List Val→Option (List Int)
 | []=>some []
 | .int i :: r=>(intsOf r).map (i :: ·)
 | _ :: _=>Option.none
def lexL {α : Type} [DecidableEq α] (lt : α→α→Bool) : List α→List α→Bool
 | [],[]=>false
 | [],_ :: _=>true
 | _ :: _,[]=>false
 | a :: as,b :: bs=>if a=b then lexL lt as bs else lt a b
abbrev ltI : List Int→List Int→Bool:=lexL fun a b=>decide (a < b)
abbrev ltR : List (List Int)→List (List Int)→Bool:=lexL ltI
def rowOfs : List Val→Option (List (List Int))
 | []=>some []
 | .tup _ m :: r=>match intsOf m,rowOfs r with
  | some is,some rs=>some (is :: rs)
  | _,_=>Option.none
 | _ :: _=>Option.none
def rowOf : Val→Option (List (List Int))
 | .tup _ (v :: l)=>rowOfs (v :: l)
 | _=>Option.none
def rowK (v : Val) : List (List Int):=(rowOf v).getD []
def alkAll (l : List Val) : Bool:=l.all fun a=>l.all fun b=>alkV a b
def srtB (l : List Val) : Bool:=(l.all fun v=>match v with | .tup _ (_ :: _)=>true | _=>false) || l.all fun v=>match v with | .tup _ _=>false | _=>true
def sortOf (l : List Val) : Option Val:=match strsOf l with
 | some ss=>if ss.length < 64 then some (.lst ((ss.mergeSort strLe).map Val.str)) else Option.none
 | Option.none=>match intsOf l with
  | some is=>some (.lst ((is.mergeSort fun a b=>decide (a≤b)).map Val.int))
  | Option.none=>if l.all fun v=>(rowOf v).isSome then some (.lst (l.mergeSort fun a b=>!ltR (rowK b) (rowK a))) else
   if alkAll l && (l.all fun v=>isPD zaF v) && srtB l then some (.lst (l.mergeSort fun a b=>!ltV b a)) else Option.none
def za5 : Prim→List Val→Option Val
 | .add,[.int i,.int j]=>some (.int (i + j))
 | .add,[.tup _ a,.tup _ b]=>zlP (a ++ b)
 | .add,[.lst a,.lst b]=>zcj (a ++ b)
 | .sub,[.int i,.int j]=>some (.int (i - j))
 | .mul,[.int i,.int j]=>if small i || small j then some (.int (i * j)) else Option.none
 | .mod,[.int i,.int j]=>if 0 < j then some (.int (i % j)) else Option.none
 | .fdiv,[.int i,.int j]=>if 0 < j∧j < 1073741824 then some (.int (i / j)) else Option.none
 | .pow,[.int i,.int j]=>if 0≤j∧j≤1000000∧i.natAbs < 2 ^ 64 then some (.int (i ^ j.toNat)) else Option.none
 | .neg,[.int i]=>some (.int (-i))
 | .eq,[a,b]=>if isPD zaF a && isPD zaF b then some (.bool (peq a b)) else if eqDct a b then some (.bool true) else if !zba a && slfV zaF a b then some (.bool true) else Option.none
 | .ne,[a,b]=>if isPD zaF a && isPD zaF b then some (.bool (!peq a b)) else if !zba a && slfV zaF a b then some (.bool false) else Option.none
 | .lt,[.int i,.int j]=>some (.bool (decide (i < j)))
 | .le,[.int i,.int j]=>some (.bool (decide (i≤j)))
 | .gt,[.int i,.int j]=>some (.bool (decide (j < i)))
 | .ge,[.int i,.int j]=>some (.bool (decide (j≤i)))
 | .le,[.str a,.str b]=>some (.bool (strLe a b))
 | .leD,[a,b]=>if isPD zaF a && isPD zaF b && alkV b a && alkV a b then some (.bool (!ltV b a)) else Option.none
 | .isin,[x,.lst l]=>if isPD zaF x && znU zaF l then some (.bool (l.any fun y=>peq y x)) else Option.none
 | .isin,[x,.tup _ l]=>if zba x && l.all zba then some (.bool (l.any fun y=>peq y x)) else Option.none
 | .isin,[x,.dct l]=>if dOkA l x then some (.bool (dget l x).isSome) else Option.none
 | .notin,[x,.lst l]=>if isPD zaF x && znU zaF l then some (.bool (!l.any fun y=>peq y x)) else Option.none
 | .notin,[x,.tup _ l]=>if zba x && l.all zba then some (.bool (!l.any fun y=>peq y x)) else Option.none
 | .notin,[x,.dct l]=>if dOkA l x then some (.bool (!(dget l x).isSome)) else Option.none
 | .isNone,[a]=>some (.bool (match a with | .none=>true | _=>false))
 | .notNone,[a]=>some (.bool (match a with | .none=>false | _=>true))
 | .isinst ts,[a]=>if isPlain a then some (.bool (ts.any fun t=>zdS a t)) else Option.none
 | .len,[.tup _ l]=>some (.int l.length)
 | .len,[.lst l]=>some (.int l.length)
 | .len,[.dct l]=>if (l.all fun p=>isKs p.1)=true then some (.int l.length) else Option.none
 | .len,[.str s]=>if s.length≤line then some (.int s.length) else Option.none
 | .item,[.tup _ l,.int i]=>(ixAt l.length i).bind fun k=>l[k]?
 | .item,[.lst l,.int i]=>(ixAt l.length i).bind fun k=>l[k]?
 | .item,[.dct l,k]=>if dOkA l k then dget l k else Option.none
 | .slice lo hi,x :: r=>(match lo,hi,r with
  | true,true,[.int i,.int j]=>some (some i,some j)
  | true,false,[.int i]=>some (some i,Option.none)
  | false,true,[.int j]=>some (Option.none,some j)
  | false,false,[]=>some (Option.none,Option.none)
  | _,_,_=>Option.none).bind fun ij=>(match x with
  | .tup _ l=>some (.tup false (cutL l ij.1 ij.2))
  | .lst l=>some (.lst (cutL l ij.1 ij.2))
  | _=>Option.none)
 | .get,[.dct l,k,d]=>if dOk l k then some ((dget l k).getD d) else Option.none
 | .sortRB,[.lst l]=>if l.all (fun v=>match v with | .bool _=>true | _=>false) then some (.lst (l.filter (fun v=>match v with | .bool true=>true | _=>false) ++ l.filter (fun v=>match v with | .bool true=>false | _=>true))) else Option.none
 | .vals,[.dct l]=>if l.all fun p=>isKn p.1 then some (.lst (l.map (·.2))) else Option.none
 | .list,[.tup _ l]=>some (.lst l)
 | .list,[.lst l]=>some (.lst l)
 | .list,[.dct l]=>if (l.all fun p=>isKs p.1) || l.all fun p=>isKn p.1 then some (.lst (l.map (·.1))) else Option.none
 | .tuple,[.tup b l]=>some (.tup b l)
 | .tuple,[.lst l]=>some (.tup true l)
 | .tupleF,[.lst l]=>some (.tup false l)
 | .dict,[.dct l]=>if l.all fun p=>isKs p.1 then some (.dct l) else Option.none
 | .dict,[.lst l]=>(pairsOf l).bind fun ps=>if dOksA [] ps then some (.dct (zpT [] ps)) else Option.none
 | .dict,[.tup true l]=>(pairsOf l).bind fun ps=>if dOks [] ps then some (.dct (zpT [] ps)) else Option.none
 | .sorted,[.lst l]=>sortOf l
 | .sorted,[.dct l]=>match strsOf (l.map (·.1)) with
  | some ss=>if ss.length < 64 then some (.lst ((ss.mergeSort strLe).map Val.str)) else Option.none
  | Option.none=>Option.none
 | .sum,[.lst l]=>(sumOf l).map .int
 | .min2,[.int i,.int j]=>some (.int (if j < i then j else i))
 | .max2,[.int i,.int j]=>some (.int (if j > i then j else i))
 | .max1,[.lst l]=>(maxOf l).map .int
 | .all,[.lst l]=>(allOf l).map .bool
 | .any,[.lst l]=>(anyOf l).map .bool
 | .toInt,[.int i]=>some (.int i)
 | .toInt,[.bool b]=>some (.int (b2i b))
 | .toStr,[.str s]=>some (.str s)
 | .rev,[.lst l]=>some (.lst l.reverse)
 | .rev,[.tup _ l]=>some (.tup false l.reverse)
 | .mulT,[.tup _ l,.int k]=>if l≠[]∧1≤k∧k≤1000∧l.length≤1000 then some (.tup false (List.replicate k.toNat l).flatten) else Option.none
 | .mulT,[.lst l,.int k]=>if 0≤k∧k≤1000∧l.length≤1000 then some (.lst (List.replicate k.toNat l).flatten) else Option.none
 | .mulS,[.str s,.int k]=>if 2≤k∧k≤1000∧s.length≤1000 then some (.str (Txt.mul s k)) else Option.none
 | .addS,[.str a,.str b]=>if a.length + b.length≤line then some (.str (a ++ b)) else Option.none
 | .isTrue,[v]=>some (.bool (match v with | .bool b=>b | _=>false))
 | _,_=>Option.none
structure Def where
 params : Nat
 slots : Nat
 /-- which parameters are cells -/
 za1 : List Nat:=[]
 /-- which other slots are cells -/
 cells : List Nat:=[]
 /-- captured cells stand behind the parameters (lambdas) -/
 caps : Nat:=0
 defaults : List (Nat × Val):=[]
 fresh : Bool:=false
 /-- its cells live on behind it -/
 esc : Bool:=false
 /-- parameters that are lent -/
 lent : List Nat:=[]
 /-- the parts of the tuple that it hands back that are new -/
 freshT : List Bool:=[]
 body : Stms
structure Tbl where
 defs : Nat→Option Def
 lams : Nat→Option Def
 /-- class,method: def -/
 meths : Nat→Nat→Option Nat
 /-- a class's __init__ -/
 zgq : Nat→Option Nat
 /-- exception classes: does the second one name the first -/
 excs : Nat→Nat→Bool
def bnd {α β : Type} (m : Fr→MH→Res α) (f : α→Fr→MH→Res β) : Fr→MH→Res β:=fun σ h =>
 match m σ h with
 | .ok a σ' h'=>f a σ' h'
 | .exn c x σ' h'=>.exn c x σ' h'
 | .stuck=>.stuck
def rt {α : Type} (a : α) : Fr→MH→Res α:=fun σ h=>.ok a σ h
def opt {α : Type} (o : Option α) : Fr→MH→Res α:=fun σ h=>match o with
 | some a=>.ok a σ h
 | Option.none=>.stuck
inductive OV where
 | v (x : Val) | sl (i : Nat) | fl (a f : Nat)
def zkD (fs : List (Nat × Slot)) (f : Nat) : Option Slot:=fs.lookup f
def zoW : List (Nat × Slot)→Nat→Slot→List (Nat × Slot)
 | [],f,s=>[(f,s)]
 | (g,t) :: r,f,s=>if g=f then (g,s) :: r else (g,t) :: zoW r f s
def fieldOf (h : MH) (a f : Nat) : Option Slot:=match h.objs[a]? with
 | some (.inst _ fs)=>zkD fs f
 | _=>Option.none
def setField (h : MH) (a f : Nat) (s : Slot) : Option MH:=match h.objs[a]? with
 | some (.inst c fs)=>some { h with objs:=h.objs.set a (.inst c (zoW fs f s)) }
 | _=>Option.none
def roomAt (h : MH) (a : Nat) : Bool:=match h.objs[a]? with
 | some (.inst _ fs)=>decide (fs.length < 1000)
 | _=>false
def zn6 : Slot→Option Val
 | .val v=>some v
 | .own v=>some v
 | _=>Option.none
def zbN (h : MH) : Val→Val
 | .ref a=>(match h.objs[a]? with
  | some (.hl l)=>.lst l
  | some (.hd l)=>.dct l
  | _=>.ref a)
 | v=>v
def resolve (o : OV) (σ : Fr) (h : MH) : Option Val:=match o with
 | .v x=>some (zbN h x)
 | .sl i=>((σ[i]?).bind zn6).map (zbN h)
 | .fl a f=>(match fieldOf h a f with
  | some (.own v)=>some v
  | _=>Option.none)
def za9 (os : List OV) (σ : Fr) (h : MH) : Option (List Val):=match os with
 | []=>some []
 | o :: r=>(resolve o σ h).bind fun v=>(za9 r σ h).map (v :: ·)
def fin (p : Prim) (vs : List OV) (σ : Fr) (h : MH) : Res Val:=match za9 vs σ h with
 | some xs=>(match za5 p xs with
  | some v=>.ok v σ h
  | Option.none=>.stuck)
 | Option.none=>.stuck
def zg9 : Option Bool→Option (List Val)→Bool
 | some false,some [.lst _]=>true
 | some true,some [.dct l]=>l.all fun p=>isKs p.1
 | Option.none,some [_]=>true
 | _,_=>false
def early (d : Option Bool) (os : List OV) : Fr→MH→Res Unit:=fun σ h=>if zg9 d (za9 os σ h) then .ok () σ h else .stuck
inductive AV where
 | v (x : Val) | p (i : Nat) | f (x : Val)
def zap (as : List AV) (σ : Fr) : Option (List Slot):=match as with
 | []=>some []
 | .v x :: r=>(zap r σ).map (.val x :: ·)
 | .f x :: r=>(zap r σ).map (.own x :: ·)
 | .p i :: r=>(match σ[i]? with
  | some (.val v)=>some (Slot.val v)
  | some (.own v)=>some (Slot.own v)
  | _=>Option.none).bind fun s=>(zap r σ).map (s :: ·)
def zbV : List AV→List Slot→List Slot→Bool
 | .p _ :: as,_ :: ss,.val _ :: r=>zbV as ss r
 | .p _ :: as,.own _ :: ss,.own _ :: r=>zbV as ss r
 | .p _ :: _,_,_=>false
 | _ :: as,_ :: ss,_ :: r=>zbV as ss r
 | [],_,_=>true
 | _ :: _,_,_=>false
def reCs (cs : List (Option Val)) : List Slot→List (Option Val)→List (Option Val)
 | [],cs'=>cs'
 | .cell c :: r,cs'=>reCs cs r (match cs[c]? with
  | some (some _)=>cs'
  | _=>cs'.set c Option.none)
 | _ :: r,cs'=>reCs cs r cs'
def reC (σ : Fr) (h h' : MH) : MH:={ h' with cells:=reCs h.cells σ h'.cells }
def backTo : List AV→List Slot→Fr→Fr
 | .p i :: as,s :: r,σ=>backTo as r (σ.set i s)
 | _ :: as,_ :: r,σ=>backTo as r σ
 | _,_,σ=>σ
def zex (as : List AV) : Bool:=match as with
 | []=>true
 | .p i :: r=>r.all (fun a=>match a with | .p j=>decide (i≠j) | _=>true) && zex r
 | _ :: r=>zex r
def zhd (lent : List Nat) : Nat→List AV→Bool
 | _,[]=>true
 | j,.v _ :: r=>zhd lent (j + 1) r
 | j,_ :: r=>lent.contains j && zhd lent (j + 1) r
def zhq (C : Callee) (t : Tgt) (lent : List Nat) (as : List AV) : Fr→MH→Res Val:=fun σ h =>
 if zex as && zhd lent 0 as then (match zap as σ with
  | Option.none=>.stuck
  | some ss=>(match C t ss h with
   | .ok v outs h'=>if zbV as ss outs then .ok v (backTo as outs σ) (reC σ h h') else .stuck
   | .exn c x outs h'=>if zbV as ss outs then .exn c x (backTo as outs σ) (reC σ h h') else .stuck
   | .stuck=>.stuck)) else .stuck
def callC (C : Callee) (t : Tgt) (lent : List Nat) (as : List AV) (order : List AV→Option (List AV)) : Fr→MH→Res Val :=
 match order as with
 | Option.none=>fun _ _=>.stuck
 | some as=>zhq C t lent as
def Tbl.lent (T : Tbl) (g : Nat) : List Nat:=match T.defs g with
 | some d=>d.lent
 | Option.none=>[]
def zaq (n : Nat) (ix : List Nat) (ds : List (Nat × Val)) (as : List AV) : Option (List AV) :=
 (List.range n).mapM fun i=>match (ix.zip as).lookup i with
  | some a=>some a
  | Option.none=>(ds.lookup i).map AV.v
def ziO (T : Tbl) (h : MH) (v : Val) (m : Nat) : Option Nat:=match v with
 | .ref a=>(match h.objs[a]? with
  | some (.inst c _)=>T.meths c m
  | _=>Option.none)
 | _=>Option.none

/- plain data,no dict -/
mutual
def isPv : Val→Bool
 | .none=>true
 | .bool _=>true
 | .int _=>true
 | .str _=>true
 | .tup _ l=>zg1 l
 | .lst l=>zg1 l
 | _=>false
def zg1 : List Val→Bool
 | []=>true
 | v :: l=>isPv v && zg1 l
end
/- plain data,copied: lists of the heap hold plain data -/
mutual
def dd1 (h : MH) : Val→Option Val
 | .none=>some .none
 | .bool b=>some (.bool b)
 | .int i=>some (.int i)
 | .str s=>some (.str s)
 | .tup b l=>(ddL1 h l).map (.tup b)
 | .lst l=>(ddL1 h l).map .lst
 | .ref a=>(match h.objs[a]? with
  | some (.hl l)=>if zg1 l then some (.lst l) else Option.none
  | _=>Option.none)
 | _=>Option.none
def ddL1 (h : MH) : List Val→Option (List Val)
 | []=>some []
 | v :: l=>(dd1 h v).bind fun w=>(ddL1 h l).map (w :: ·)
end
/- the same,lists of the heap may hold lists of the heap -/
mutual
def dd (h : MH) : Val→Option Val
 | .none=>some .none
 | .bool b=>some (.bool b)
 | .int i=>some (.int i)
 | .str s=>some (.str s)
 | .tup b l=>(ddL h l).map (.tup b)
 | .lst l=>(ddL h l).map .lst
 | .ref a=>(match h.objs[a]? with
  | some (.hl l)=>if zg1 l then some (.lst l) else (ddL1 h l).map .lst
  | _=>Option.none)
 | _=>Option.none
def ddL (h : MH) : List Val→Option (List Val)
 | []=>some []
 | v :: l=>(dd h v).bind fun w=>(ddL h l).map (w :: ·)
end
def isLD : Val→Bool
 | .lst _=>true
 | .dct _=>true
 | _=>false
def zbU (σ : Fr) (i : Nat) : Bool:=match σ[i]? with
 | some (.cell _)=>false
 | some _=>true
 | Option.none=>false
mutual
def asg : Pat→Val→Fr→MH→Option (Fr × MH)
 | .var i,v,σ,h=>if zbU σ i then some (σ.set i (.val v),h) else Option.none
 | .cvar i,v,σ,h=>match σ[i]? with
  | some (.cell c)=>if c < h.cells.length then some (σ,{ h with cells:=h.cells.set c (some v) }) else Option.none
  | _=>Option.none
 | .tup ps,v,σ,h=>match v with
  | .tup _ l=>asgs ps l σ h
  | _=>Option.none
def asgs : List Pat→List Val→Fr→MH→Option (Fr × MH)
 | [],[],σ,h=>some (σ,h)
 | p :: ps,v :: vs,σ,h=>match asg p v σ h with
  | some (σ',h')=>asgs ps vs σ' h'
  | Option.none=>Option.none
 | _,_,_,_=>Option.none
end
def asgM (p : Pat) (v : Val) : Fr→MH→Res Unit:=fun σ h=>match asg p v σ h with
 | some (σ',h')=>.ok () σ' h'
 | Option.none=>.stuck
def wipe (own : List Nat) (σ : Fr) : Fr:=own.foldl (fun σ i=>σ.set i .un) σ
def zd1 {α : Type} (own : List Nat) (p : Pat) (t : Fr→MH→Res Bool) (f : Fr→MH→Res (List α)) : List Val→Fr→MH→Res (List α)
 | []=>fun σ h=>.ok [] σ h
 | v :: vs=>fun σ h=>bnd (asgM p v) (fun _=>bnd t fun b=>bnd (if b then f else rt []) fun ys σ h=>bnd (zd1 own p t f vs) (fun zs=>rt (ys ++ zs)) (wipe own σ) h) σ h
def restore (own : List Nat) (σ₀ σ : Fr) : Fr:=own.foldl (fun σ i=>σ.set i (σ₀.getD i .un)) σ
def freeSlot (σ : Fr) (i : Nat) : Bool:=match σ[i]? with
 | some .un=>true
 | some (.val _)=>true
 | _=>false
def inBlock {α : Type} (own : List Nat) (m : Fr→MH→Res α) : Fr→MH→Res α:=fun σ h =>
 if own.all (freeSlot σ) then (match m (wipe own σ) h with
 | .ok a σ' h'=>.ok a (restore own σ σ') h'
 | .stuck=>.stuck
 | _=>.stuck) else .stuck
def inBlockX {α : Type} (own : List Nat) (m : Fr→MH→Res α) : Fr→MH→Res α:=fun σ h =>
 if own.all (freeSlot σ) then (match m (wipe own σ) h with
 | .ok a σ' h'=>.ok a (restore own σ σ') h'
 | .exn c x σ' h'=>.exn c x (restore own σ (wipe own σ')) h'
 | .stuck=>.stuck) else .stuck
def hideF (σ : Fr) : Fr:=σ.map fun s=>match s with
 | .cell _=>.un
 | s=>s
def zoG (σ σ' : Fr) : Fr:=(List.range σ'.length).map fun i=>match (σ[i]? : Option Slot) with
 | some (.cell c)=>Slot.cell c
 | _=>((σ'[i]? : Option Slot)).getD .un
def zdG (cs : List (Option Val)) : List Slot→List (Option Val)
 | []=>cs
 | .cell c :: r=>zdG (cs.set c Option.none) r
 | _ :: r=>zdG cs r
def zlj (cs : List (Option Val)) : List Slot→List (Option Val)→List (Option Val)
 | [],cs'=>cs'
 | .cell c :: r,cs'=>zlj cs r (cs'.set c ((cs[c]?).getD Option.none))
 | _ :: r,cs'=>zlj cs r cs'
def zkw (n : Nat) (h : MH) : Bool:=(h.cells.drop n).all fun v=>v.isNone
def hideR {α : Type} (m : Fr→MH→Res α) : Fr→MH→Res α:=fun σ h =>
 match m (hideF σ) { h with cells:=zdG h.cells σ } with
 | .ok a σ' h'=>if zkw h.cells.length h' then .ok a (zoG σ σ') { h' with cells:=zlj h.cells σ h'.cells } else .stuck
 | .exn c x σ' h'=>if zkw h.cells.length h' then .exn c x (zoG σ σ') { h' with cells:=zlj h.cells σ h'.cells } else .stuck
 | .stuck=>.stuck
def hideP (σ : Fr) (h : MH) : Fr:=σ.map fun s=>match s with
 | .cell c=>(match h.cells[c]? with
  | some (some v)=>.val v
  | _=>.un)
 | s=>s
def peekR {α : Type} (m : Fr→MH→Res α) : Fr→MH→Res α:=fun σ h =>
 match m (hideP σ h) { h with cells:=zdG h.cells σ } with
 | .ok a σ' h'=>if zkw h.cells.length h' then .ok a (zoG σ σ') { h' with cells:=zlj h.cells σ h'.cells } else .stuck
 | .exn c x σ' h'=>if zkw h.cells.length h' then .exn c x (zoG σ σ') { h' with cells:=zlj h.cells σ h'.cells } else .stuck
 | .stuck=>.stuck
def lessF (us : List Nat) (σ : Fr) : Fr:=(List.range σ.length).map fun i=>if i∈us then Slot.un else σ.getD i .un
def isCellS : Option Slot→Bool
 | some (.cell _)=>true
 | _=>false
def peekS {α : Type} (us : List Nat) (m : Fr→MH→Res α) : Fr→MH→Res α:=fun σ h =>
 if us.all fun i=>isCellS σ[i]? then
 match m (hideP σ h) { h with cells:=zdG h.cells (lessF us σ) } with
 | .ok a σ' h'=>if zkw h.cells.length h' then .ok a (zoG σ σ') { h' with cells:=zlj h.cells σ h'.cells } else .stuck
 | _=>.stuck
 else .stuck
def enterK : List Nat→Fr→MH→Fr × MH
 | [],σ,h=>(σ,h)
 | i :: r,σ,h=>enterK r (σ.set i (.cell h.cells.length)) { h with cells:=h.cells ++ [match σ[i]? with
  | some (.val v)=>some v
  | _=>Option.none] }
def turnsK (j : Nat) (f : Fr→MH→Res Val) : List Val→Fr→MH→Res (List Val)
 | []=>rt []
 | v :: vs=>bnd (asgM (.cvar j) v) fun _=>bnd f fun y σ h=>match σ[j]? with
  | some (.cell c)=>bnd (turnsK j f vs) (fun ys=>rt (y :: ys)) σ { h with cells:=h.cells.set c Option.none }
  | _=>.stuck
def blockK {α : Type} (j : Nat) (ks : List Nat) (m : Fr→MH→Res α) : Fr→MH→Res α:=fun σ h =>
 if freeSlot σ j && decide (j :: ks).Nodup && (j :: ks).all (fun i=>decide (i < σ.length)) then
  (match m (enterK (j :: ks) (σ.set j .un) h).1 (enterK (j :: ks) (σ.set j .un) h).2 with
  | .ok a σ' h'=>.ok a ((hideF σ').set j (σ.getD j .un)) { h' with cells:=zdG h'.cells σ' }
  | _=>.stuck) else .stuck
def Stood (v : Val) (h0 h : MH) : Prop:=match v with
 | .ref a=>h.objs[a]? = h0.objs[a]?
 | _=>True
noncomputable section
open Classical in
def zro {α : Type} (g : MH→Prop) (own : List Nat) (p : Pat) (t : Fr→MH→Res Bool) (f : Fr→MH→Res (List α)) : List Val→Fr→MH→Res (List α)
 | []=>fun σ h=>if g h then .ok [] σ h else .stuck
 | v :: vs=>fun σ h=>if g h then bnd (asgM p v) (fun _=>bnd t fun b=>bnd (if b then f else rt []) fun ys σ h=>bnd (zro g own p t f vs) (fun zs=>rt (ys ++ zs)) (wipe own σ) h) σ h else .stuck
def zjU (h : MH) : Val→Option (List Val)
 | .ref a=>(match h.objs[a]? with
  | some (.hl l)=>some l
  | _=>Option.none)
 | v=>seqOf v
def snapM (m : Fr→MH→Res Val) : Fr→MH→Res ((MH→Prop) × List Val) :=
 bnd m fun v σ h=>match zjU h v with
  | some vs=>.ok (Stood v h,vs) σ h
  | Option.none=>.stuck
def zqr {α : Type} (m : Fr→MH→Res Val) (k : (MH→Prop)→List Val→Fr→MH→Res α) : Fr→MH→Res α :=
 bnd (snapM m) fun gv=>k gv.1 gv.2
def zg3 (lo hi : Int) : List Val:=(List.range (hi - lo).toNat).map fun (i : Nat)=>.int (lo + (i : Int))
def seqLT : Val→Option (List Val)
 | .lst l=>some l
 | .tup _ l=>some l
 | _=>Option.none
def zlC : List Val→Option (List Val)
 | [x,y]=>(seqLT x).bind fun a=>(seqLT y).map fun b=>(a.zip b).map fun p=>.tup false [p.1,p.2]
 | [x,y,z]=>(seqLT x).bind fun a=>(seqLT y).bind fun b=>(seqLT z).map fun c=>(a.zip (b.zip c)).map fun p=>.tup false [p.1,p.2.1,p.2.2]
 | _=>Option.none
def zpR : Nat→List Val→List Val
 | _,[]=>[]
 | n,v :: r=>.tup false [.int n,v] :: zpR (n + 1) r
def zkV (h : MH) : Val→Option (List Val):=seqOf
def snapE (m : Fr→MH→Res Val) : Fr→MH→Res ((MH→Prop) × List Val) :=
 bnd m fun v σ h=>match v with
  | .lst l=>.ok (Stood (.lst l) h,zpR 0 l) σ h
  | .ref a=>(match h.objs[a]? with
   | some (.hl l)=>.ok (Stood (.ref a) h,zpR 0 l) σ h
   | _=>.stuck)
  | _=>.stuck
def cellsOf (σ : Fr) : List Nat→Option (List Nat)
 | []=>some []
 | i :: r=>match σ[i]? with
  | some (.cell c)=>(cellsOf σ r).map (c :: ·)
  | _=>Option.none
def zipKV : List Val→List Val→Option (List (Val × Val))
 | [],[]=>some []
 | k :: ks,v :: vs=>if isKey kMax k then (zipKV ks vs).map ((k,v) :: ·) else Option.none
 | _,_=>Option.none
theorem fits_ex : ∃ g : Int→Bool,g=fun b=>decide (-(2 ^ 62)≤b∧b < 2 ^ 62):=⟨_,rfl⟩
noncomputable def fits : Int→Bool:=Classical.choose fits_ex
theorem fits_eq {b : Int} : fits b=decide (-(2 ^ 62)≤b∧b < 2 ^ 62):=congrFun (Classical.choose_spec fits_ex) b
def popR (i : Nat) (kv : Val) : Fr→MH→Res Val:=fun σ h=>match kv,σ[i]? with
 | .int k,some (.own (.lst l))=>(match ixAt l.length k with
  | some j=>(match l[j]? with
   | some y=>if fits k then .ok y (σ.set i (.own (.lst (l.eraseIdx j)))) h else .stuck
   | Option.none=>.stuck)
  | Option.none=>.stuck)
 | _,_=>.stuck
def ldR (v : Val) : Fr→MH→Res Val:=fun σ h=>if isLD v then .ok v σ h else .stuck
mutual
def ev (T : Tbl) (C : Callee) : Exp→Fr→MH→Res Val
 | .lit v=>rt v
 | .var i=>fun σ h=>match σ[i]? with
  | some (.val v)=>.ok v σ h
  | _=>.stuck
 | .mvar i=>fun σ h=>match σ[i]? with
  | some (.val v)=>.ok v σ h
  | some (.own v)=>.ok v (σ.set i (.val v)) h
  | _=>.stuck
 | .cvar i=>fun σ h=>match σ[i]? with
  | some (.cell c)=>(match h.cells[c]? with
   | some (some v)=>.ok v σ h
   | _=>.stuck)
  | _=>.stuck
 | .fld e f=>bnd (ev T C e) fun v σ h=>match v with
  | .ref a=>(match fieldOf h a f with
   | some (.val w)=>.ok w σ h
   | _=>.stuck)
  | _=>.stuck
 | .fldm e f=>bnd (ev T C e) fun v σ h=>match v with
  | .ref a=>(match fieldOf h a f with
   | some (.val w)=>.ok w σ h
   | some (.own w)=>(match setField h a f (.val w) with
    | some h'=>.ok w σ h'
    | Option.none=>.stuck)
   | _=>.stuck)
  | _=>.stuck
 | .excf i=>fun σ h=>match σ[i]? with
  | some (.exc _ (some v))=>.ok v σ h
  | _=>.stuck
 | .exis i d=>fun σ h=>match σ[i]? with
  | some (.exc c _)=>if T.excs c d=true then .ok (.bool true) σ h else .stuck
  | _=>.stuck
 | .mkx0 c f=>rt (.exc c f [])
 | .mkx c f e=>bnd (ev T C e) fun v=>rt (.exc c f [v])
 | .isx d e=>bnd (ev T C e) fun v=>match v with
  | .exc c _ _=>rt (.bool (T.excs c d))
  | _=>fun _ _=>.stuck
 | .xfld f e=>bnd (ev T C e) fun v=>match v with
  | .exc _ g [w]=>if f=g then rt w else fun _ _=>.stuck
  | _=>fun _ _=>.stuck
 | .prim p os=>bnd (evo T C os) (fin p)
 | .dget o k d=>bnd (evo T C o) fun os=>bnd (early (some true) os) fun _=>bnd (ev T C k) fun kv=>bnd (ev T C d) fun dv σ h=>match os with
  | [o]=>(match resolve o σ h with
   | some v=>opt (za5 .get [v,kv,dv]) σ h
   | Option.none=>.stuck)
  | _=>.stuck
 | .and a b=>bnd (ev T C a) fun v=>bnd (opt (truthy v)) fun t=>if t then ev T C b else rt v
 | .or a b=>bnd (ev T C a) fun v=>bnd (opt (truthy v)) fun t=>if t then rt v else ev T C b
 | .not a=>bnd (ev T C a) fun v=>bnd (opt (truthy v)) fun t=>rt (.bool (!t))
 | .ifx c a b=>bnd (ev T C c) fun v=>bnd (opt (truthy v)) fun t=>if t then ev T C a else ev T C b
 | .chain p q a b c=>bnd (ev T C a) fun x=>bnd (ev T C b) fun y=>bnd (opt (za5 p [x,y])) fun r=>match r with
  | .bool true=>bnd (ev T C c) fun z=>opt (za5 q [y,z])
  | .bool false=>rt (.bool false)
  | _=>fun _ _=>.stuck
 | .tup es=>bnd (evs T C es) fun vs=>opt (zlP vs)
 | .lst es=>bnd (evs T C es) fun vs=>opt (zcj vs)
 | .box e=>bnd (ev T C e) fun v σ h=>match v with
  | .lst l=>.ok (.ref h.objs.length) σ { h with objs:=h.objs ++ [.hl l] }
  | .dct l=>.ok (.ref h.objs.length) σ { h with objs:=h.objs ++ [.hd l] }
  | _=>.stuck
 | .dct ks vs=>bnd (evs T C ks) fun k=>bnd (evs T C vs) fun v=>bnd (opt (zipKV k v)) fun ps=>if dOksA [] ps then rt (.dct (zpT [] ps)) else fun _ _=>.stuck
 | .call g as=>bnd (eva T C as) fun xs=>callC C (.fn g) (T.lent g) xs some
 | .callk g as ix=>bnd (eva T C as) fun xs=>callC C (.fn g) (T.lent g) xs fun ys=>(T.defs g).bind fun d=>zaq d.params ix d.defaults ys
 | .new c as ix=>bnd (eva T C as) fun xs σ h=>match T.zgq c with
  | Option.none=>.stuck
  | some g=>(match T.defs g with
   | Option.none=>.stuck
   | some d=>bnd (callC C (.fn g) (T.lent g) (.v (.ref h.objs.length) :: xs) fun ys=>zaq d.params (0 :: ix) d.defaults ys) (fun r=>match r with
    | .none=>rt (.ref h.objs.length)
    | _=>fun _ _=>.stuck) σ { h with objs:=h.objs ++ [.inst c []] })
 | .meth e m as ix=>bnd (ev T C e) fun o σ h=>match ziO T h o m with
  | Option.none=>.stuck
  | some g=>bnd (eva T C as) (fun xs=>callC C (.fn g) (T.lent g) (.v o :: xs) fun ys=>(T.defs g).bind fun d=>zaq d.params (0 :: ix) d.defaults ys) σ h
 | .callv e as=>bnd (ev T C e) fun f=>match f with
  | .fn g=>bnd (eva T C as) fun xs=>callC C (.fn g) (T.lent g) xs some
  | .clo l cs=>bnd (eva T C as) fun xs=>callC C (.lam l cs) [] xs some
  | _=>fun _ _=>.stuck
 | .callF g es=>bnd (evs T C es) fun vs σ h=>match ddL h vs with
  | Option.none=>.stuck
  | some ys=>(match C (.fn g) (ys.map Slot.val) ⟨[],[]⟩ with
   | .ok v _ _=>if zba v then .ok v σ h else .stuck
   | _=>.stuck)
 | .lam l caps=>fun σ h=>match cellsOf σ caps with
  | some cs=>.ok (.clo l cs) σ h
  | Option.none=>.stuck
 | .iter (.zip es)=>bnd (evs T C es) fun vs=>match vs with
  | [.lst a,.lst b]=>opt (zcj ((a.zip b).map fun p=>.tup false [p.1,p.2]))
  | _=>fun _ _=>.stuck
 | .iter (.range es)=>bnd (evi T C (.range es)) fun vs=>opt (zcj vs)
 | .iter (.zipM es)=>bnd (evs T C es) fun vs=>match vs with
  | [v1,v2]=>opt ((zlC [v1,v2]).bind zcj)
  | _=>fun _ _=>.stuck
 | .iter _=>fun _ _=>.stuck
 | .comp e own p it ifs=>bnd (evi T C it) fun vs=>inBlock own (bnd (zd1 own p (evt T C ifs) (bnd (ev T C e) fun y=>rt [y]) vs) fun ys=>opt (zcj ys))
 | .compx e own p it=>bnd (evi T C it) fun vs=>if vs.length≤line then inBlockX own (bnd (zd1 own p (rt true) (bnd (ev T C e) fun y=>rt [y]) vs) fun ys=>opt (zcj ys)) else fun _ _=>.stuck
 | .lcomp e j ks it=>bnd (evi T C it) fun vs=>if vs.length≤line then peekR (blockK j ks (bnd (turnsK j (ev T C e) vs) fun ys=>opt (zcj ys))) else fun _ _=>.stuck
 | .lcompS e j ks us it=>bnd (evi T C it) fun vs=>if vs.length≤line then peekS us (blockK j ks (bnd (turnsK j (ev T C e) vs) fun ys=>opt (zcj ys))) else fun _ _=>.stuck
 | .zdiv c a b=>bnd (ev T C a) fun x=>bnd (ev T C b) fun y=>fun σ h=>match x,y with
  | .int _,.int 0=>.exn c Option.none σ h
  | _,_=>.stuck
 | .hcomp e own p it ifs=>bnd (evi T C it) fun vs=>hideR (inBlock own (bnd (zd1 own p (evt T C ifs) (bnd (ev T C e) fun y=>rt [y]) vs) fun ys=>opt (zcj ys)))
 | .hide e=>hideR (ev T C e)
 | .peek e=>peekR (ev T C e)
 | .pop i e=>fun σ h=>match σ[i]? with
  | some (.own (.lst _))=>bnd (ev T C e) (popR i) σ h
  | _=>.stuck
 | .keysS i j=>fun σ h=>match σ[i]? with
  | some (.val v)=>(match zbN h v with
   | .dct l=>if (decide (j < σ.length) && l.all fun p=>match p.1 with | .str _=>true | _=>false)=true then opt (zcj (l.map (·.1))) σ h else .stuck
   | _=>.stuck)
  | _=>.stuck
 | .comph e own p x ifs=>zqr (ev T C x) fun g vs=>inBlock own (bnd (zro g own p (evt T C ifs) (bnd (ev T C e) fun y=>rt [y]) vs) fun ys=>opt (zcj ys))
 | .comp2h e own p x own2 p2 x2 ifs=>zqr (ev T C x) fun g vs=>inBlock own (bnd (zro g own p (rt true) (zqr (ev T C x2) fun g2 ws σ h=>zro g2 own2 p2 (evt T C ifs) (bnd (ev T C e) fun y=>rt [y]) ws (wipe own2 σ) h) vs) fun ys=>opt (zcj ys))
 | .comp2 e own p it own2 p2 it2 ifs=>bnd (evi T C it) fun vs=>inBlock own (bnd (zd1 own p (rt true)
   (bnd (evi T C it2) fun ws=>zd1 own2 p2 (evt T C ifs) (bnd (ev T C e) fun y=>rt [y]) ws) vs) fun ys=>opt (zcj ys))
def evs (T : Tbl) (C : Callee) : Exps→Fr→MH→Res (List Val)
 | .nil=>rt []
 | .cons e es=>bnd (ev T C e) fun v=>bnd (evs T C es) fun vs=>rt (v :: vs)
def evo (T : Tbl) (C : Callee) : Opds→Fr→MH→Res (List OV)
 | .nil=>rt []
 | .e x r=>bnd (bnd (ev T C x) fun v=>rt (OV.v v)) fun o=>bnd (evo T C r) fun vs=>rt (o :: vs)
 | .b i r=>bnd (fun σ h=>match σ[i]? with
  | some (.val _)=>.ok (OV.sl i) σ h
  | some (.own _)=>.ok (OV.sl i) σ h
  | _=>.stuck) fun o=>bnd (evo T C r) fun vs=>rt (o :: vs)
 | .bf x f r=>bnd (bnd (ev T C x) fun v σ h=>match v with
  | .ref a=>(match fieldOf h a f with
   | some (.own _)=>.ok (OV.fl a f) σ h
   | _=>.stuck)
  | _=>.stuck) fun o=>bnd (evo T C r) fun vs=>rt (o :: vs)
def eva (T : Tbl) (C : Callee) : Args→Fr→MH→Res (List AV)
 | .nil=>rt []
 | .e x r=>bnd (ev T C x) fun v=>bnd (eva T C r) fun vs=>rt (.v v :: vs)
 | .p i r=>bnd (fun σ h=>match σ[i]? with
  | some (.val _)=>.ok () σ h
  | some (.own _)=>.ok () σ h
  | _=>.stuck) fun _=>bnd (eva T C r) fun vs=>rt (.p i :: vs)
 | .f x r=>bnd (ev T C x) fun v=>bnd (ldR v) fun v=>bnd (eva T C r) fun vs=>rt (.f v :: vs)
def evi (T : Tbl) (C : Callee) : Iter→Fr→MH→Res (List Val)
 | .e x=>bnd (ev T C x) fun v σ h=>opt (zkV h v) σ h
 | .zip es=>bnd (evs T C es) fun vs=>match vs with
  | [.lst a,.lst b]=>rt ((a.zip b).map fun p=>.tup false [p.1,p.2])
  | [.tup _ a,.tup _ b]=>rt ((a.zip b).map fun p=>.tup false [p.1,p.2])
  | _=>fun _ _=>.stuck
 | .zipM es=>bnd (evs T C es) fun vs=>opt (zlC vs)
 | .enum x=>bnd (ev T C x) fun v=>match v with
  | .lst l=>rt (zpR 0 l)
  | .tup _ l=>rt (zpR 0 l)
  | _=>fun _ _=>.stuck
 | .range es=>bnd (evs T C es) fun vs=>match vs with
  | [.int n]=>if fits n then rt (zg3 0 n) else fun _ _=>.stuck
  | [.int a,.int b]=>if fits a && fits b then rt (zg3 a b) else fun _ _=>.stuck
  | _=>fun _ _=>.stuck
def evt (T : Tbl) (C : Callee) : Exps→Fr→MH→Res Bool
 | .nil=>rt true
 | .cons e es=>bnd (ev T C e) fun v=>bnd (opt (truthy v)) fun t=>if t then evt T C es else rt false
end

def zaZ {α : Type} (m : Fr→MH→Res α) (f : α→Fr→MH→SRes) : Fr→MH→SRes:=fun σ h =>
 match m σ h with
 | .ok a σ' h'=>f a σ' h'
 | .exn c x σ' h'=>.exn c x σ' h'
 | .stuck=>.stuck
def seqS (m f : Fr→MH→SRes) : Fr→MH→SRes:=fun σ h=>match m σ h with
 | .nx σ' h'=>f σ' h'
 | r=>r
def forL (p : Pat) (b : Fr→MH→SRes) : List Val→Fr→MH→SRes
 | []=>fun σ h=>.nx σ h
 | v :: vs=>fun σ h=>match asg p v σ h with
  | Option.none=>.stuck
  | some (σ',h')=>(match b σ' h' with
   | .nx σ₂ h₂=>forL p b vs σ₂ h₂
   | .cont σ₂ h₂=>forL p b vs σ₂ h₂
   | .brk σ₂ h₂=>.nx σ₂ h₂
   | r=>r)
open Classical in
def forG (g : MH→Prop) (p : Pat) (b : Fr→MH→SRes) : List Val→Fr→MH→SRes
 | []=>fun σ h=>if g h then .nx σ h else .stuck
 | v :: vs=>fun σ h=>if g h then (match asg p v σ h with
  | Option.none=>.stuck
  | some (σ',h')=>(match b σ' h' with
   | .nx σ₂ h₂=>forG g p b vs σ₂ h₂
   | .cont σ₂ h₂=>forG g p b vs σ₂ h₂
   | .brk σ₂ h₂=>.nx σ₂ h₂
   | r=>r)) else .stuck
def whileL (t : Fr→MH→Res Bool) (b : Fr→MH→SRes) : Nat→Fr→MH→SRes
 | 0=>fun _ _=>.stuck
 | n + 1=>zaZ t fun c=>if c then fun σ h=>(match b σ h with
   | .nx σ₂ h₂=>whileL t b n σ₂ h₂
   | .cont σ₂ h₂=>whileL t b n σ₂ h₂
   | .brk σ₂ h₂=>.nx σ₂ h₂
   | r=>r) else fun σ h=>.nx σ h
def growL (p : Pat) (f : Fr→MH→Res Val) : List Val→Fr→MH→Res (List Val)
 | []=>rt []
 | v :: vs=>bnd (asgM p v) fun _=>bnd f fun y=>bnd (growL p f vs) fun ys=>rt (y :: ys)
def fillL (i : Nat) (p : Pat) (f : Fr→MH→Res Val) (ws : List Val) : Fr→MH→SRes:=fun σ h=>match growL p f ws σ h with
 | .ok ys σ' h'=>if ys.length≤line then (match asg (.cvar i) (.lst ys) σ' h' with
  | some (σ2,h2)=>.nx σ2 h2
  | Option.none=>.stuck) else .stuck
 | _=>.stuck
def turns : Nat:=100000
def zgw (o x : Val) (f : Val→Val→Option Val) (σ : Fr) (h : MH) : SRes:=match o with
 | .ref a=>(match h.objs[a]? with
  | some (.hl l)=>(match f (.lst l) x with
   | some (.lst l')=>.nx σ { h with objs:=h.objs.set a (.hl l') }
   | _=>.stuck)
  | some (.hd l)=>(match f (.dct l) x with
   | some (.dct l')=>.nx σ { h with objs:=h.objs.set a (.hd l') }
   | _=>.stuck)
  | _=>.stuck)
 | _=>.stuck
def ze1 (o : OV) (x : Val) (f : Val→Val→Option Val) : Fr→MH→SRes:=fun σ h=>match o with
 | .v w=>zgw w x f σ h
 | .sl i=>(match σ[i]? with
  | some (.own v)=>(match f v x with
   | some w=>.nx (σ.set i (.own w)) h
   | Option.none=>.stuck)
  | some (.val v)=>zgw v x f σ h
  | _=>.stuck)
 | .fl a g=>(match fieldOf h a g with
  | some (.own v)=>(match f v x with
   | some w=>(match setField h a g (.own w) with
    | some h'=>.nx σ h'
    | Option.none=>.stuck)
   | Option.none=>.stuck)
  | _=>.stuck)
def plcO : Plc→Opds
 | .slot i=>.b i .nil
 | .fld e g=>.bf e g .nil
 | .val e=>.e e .nil
def change (T : Tbl) (C : Callee) (d : Option Bool) (p : Plc) (rest : Fr→MH→Res Val) (f : Val→Val→Option Val) : Fr→MH→SRes :=
 zaZ (evo T C (plcO p)) fun os=>zaZ (early d os) fun _=>zaZ rest fun x=>match os with
  | [o]=>ze1 o x f
  | _=>fun _ _=>.stuck
def ziw : Val→Val→Option Val
 | .lst l,x=>if l.length < line then some (.lst (l ++ [x])) else Option.none
 | _,_=>Option.none
def zlc : Val→Val→Option Val
 | .lst l,.lst r=>zcj (l ++ r)
 | _,_=>Option.none
def updateV : Val→Val→Option Val
 | .dct l,.dct r=>if (dOks l r || dOksN l r && nApart l r) && decide (l.length + r.length≤line) then some (.dct (zpT l r)) else Option.none
 | _,_=>Option.none
def ownDct (o : OV) (σ : Fr) (h : MH) : Bool:=match o with
 | .v (.ref a)=>(match h.objs[a]? with
  | some (.hd _)=>true
  | _=>false)
 | .sl i=>(match σ[i]? with
  | some (.own (.dct _))=>true
  | some (.val (.ref a))=>(match h.objs[a]? with
   | some (.hd _)=>true
   | _=>false)
  | _=>false)
 | .fl a g=>(match fieldOf h a g with
  | some (.own (.dct _))=>true
  | _=>false)
 | _=>false
def changeD (T : Tbl) (C : Callee) (p : Plc) (rest : Fr→MH→Res Val) (f : Val→Val→Option Val) : Fr→MH→SRes :=
 zaZ (evo T C (plcO p)) fun os σ h=>match os with
  | [o]=>if ownDct o σ h then zaZ rest (fun x=>ze1 o x f) σ h else .stuck
  | _=>.stuck
def revV : Val→Val→Option Val
 | .lst l,_=>some (.lst l.reverse)
 | _,_=>Option.none
def clearV : Val→Val→Option Val
 | .lst _,_=>some (.lst [])
 | _,_=>Option.none
def setV (k : Val) : Val→Val→Option Val
 | .lst l,x=>(match k with
  | .int i=>(ixAt l.length i).map fun j=>.lst (l.set j x)
  | _=>Option.none)
 | .dct l,x=>if dOkA l k && decide (l.length < line) then some (.dct (dput l k x)) else Option.none
 | _,_=>Option.none
def app2V : Val→Val→Option Val
 | .lst l,x=>match l.getLast? with
  | some (.lst m)=>if m.length < line then some (.lst (l.dropLast ++ [.lst (m ++ [x])])) else Option.none
  | _=>Option.none
 | _,_=>Option.none
def setPT : List PTar→List Val→Fr→MH→Option (Fr × MH)
 | [],[],σ,h=>some (σ,h)
 | .pat p :: ts,v :: vs,σ,h=>(match asg p v σ h with
  | some (σ',h')=>setPT ts vs σ' h'
  | Option.none=>Option.none)
 | .own i :: ts,v :: vs,σ,h=>if zbU σ i && isLD v then setPT ts vs (σ.set i (.own v)) h else Option.none
 | .own2 i :: ts,_ :: vs,σ,h=>if zbU σ i then setPT ts vs (σ.set i (.own2 (.lst [.lst []]))) h else Option.none
 | _,_,_,_=>Option.none
def zbT : List Nat→List AV→Fr→Option Fr
 | [],[],σ=>some σ
 | i :: is,.v v :: vs,σ=>if zbU σ i then zbT is vs (σ.set i (.val v)) else Option.none
 | i :: is,.f v :: vs,σ=>if zbU σ i then zbT is vs (σ.set i (.own v)) else Option.none
 | _,_,_=>Option.none
def partsOf : List (Option Nat)→List Val→Fr→Option (List Val)
 | [],[],_=>some []
 | some i :: ms,_ :: vs,σ=>(match σ[i]? with
  | some (.own v)=>(partsOf ms vs σ).map (v :: ·)
  | _=>Option.none)
 | Option.none :: ms,v :: vs,σ=>(partsOf ms vs σ).map (v :: ·)
 | _,_,_=>Option.none
def hasRef : Val→Bool
 | .none=>false
 | .bool _=>false
 | .int _=>false
 | .str _=>false
 | _=>true
mutual
def ex (T : Tbl) (C : Callee) : Stm→Fr→MH→SRes
 | .asg p e=>zaZ (ev T C e) fun v=>zaZ (asgM p v) fun _ σ h=>.nx σ h
 | .setO i e=>zaZ (ev T C e) fun v σ h=>if zbU σ i && isLD v then .nx (σ.set i (.own v)) h else .stuck
 | .setO2 i=>fun σ h=>if zbU σ i then .nx (σ.set i (.own2 (.lst [.lst []]))) h else .stuck
 | .fill i j y p it z=>zaZ (eva T C (.f (.lst .nil) (.f y .nil))) fun vs σ h=>match σ[i]? with
  | some (.cell c)=>(match h.cells[c]? with
   | some Option.none=>(match zbT [j] (vs.drop 1) σ with
    | some σ'=>zaZ (evi T C it) (fun ws=>fillL i p (ev T C z) ws) σ' h
    | Option.none=>.stuck)
   | _=>.stuck)
  | _=>.stuck
 | .par ts as=>zaZ (eva T C as) fun vs σ h=>match zbT ts vs σ with
  | some σ'=>.nx σ' h
  | Option.none=>.stuck
 | .aug i e=>fun σ h=>match σ[i]? with
  | some (.val (.int a))=>zaZ (ev T C e) (fun w σ h=>match w with
   | .int b=>if zbU σ i then .nx (σ.set i (.val (.int (a + b)))) h else .stuck
   | _=>.stuck) σ h
  | _=>.stuck
 | .setF o f e=>zaZ (ev T C e) fun v=>zaZ (ev T C o) fun x σ h=>match x with
  | .ref a=>if roomAt h a then (match setField h a f (.val v) with
   | some h'=>.nx σ h'
   | Option.none=>.stuck) else .stuck
  | _=>.stuck
 | .setFO o f e=>zaZ (ev T C e) fun v=>zaZ (ev T C o) fun x σ h=>match x with
  | .ref a=>if (fieldOf h a f).isNone && isLD v && roomAt h a then (match setField h a f (.own v) with
   | some h'=>.nx σ h'
   | Option.none=>.stuck) else .stuck
  | _=>.stuck
 | .setI p k e=>zaZ (ev T C e) fun v=>change T C Option.none p (bnd (ev T C k) fun kv=>rt (.tup false [kv,v])) fun w x=>match x with
  | .tup _ [kv,v]=>setV kv w v
  | _=>Option.none
 | .append p e=>change T C (some false) p (ev T C e) ziw
 | .extend p e=>change T C (some false) p (ev T C e) zlc
 | .update p e=>changeD T C p (ev T C e) updateV
 | .clear p=>change T C (some false) p (rt .none) clearV
 | .reverse p=>change T C (some false) p (rt .none) revV
 | .app2 i e=>zaZ (ev T C e) fun v σ h=>match σ[i]? with
  | some (.own2 w)=>(match app2V w v with
   | some u=>.nx (σ.set i (.own2 u)) h
   | Option.none=>.stuck)
  | _=>.stuck
 | .new2 i=>fun σ h=>match σ[i]? with
  | some (.own2 (.lst l))=>if l.length < line then .nx (σ.set i (.own2 (.lst (l ++ [.lst []])))) h else .stuck
  | _=>.stuck
 | .expr e=>zaZ (ev T C e) fun _ σ h=>.nx σ h
 | .ite c a b=>zaZ (bnd (ev T C c) fun v=>opt (truthy v)) fun t=>if t then exs T C a else exs T C b
 | .while c b=>whileL (bnd (ev T C c) fun v=>opt (truthy v)) (exs T C b) turns
 | .for p it b=>zaZ (evi T C it) fun vs=>forL p (exs T C b) vs
 | .forh p x b=>zaZ (snapM (ev T C x)) fun gv=>forG gv.1 p (exs T C b) gv.2
 | .forhe p x b=>zaZ (snapE (ev T C x)) fun gv=>forG gv.1 p (exs T C b) gv.2
 | .ret e=>zaZ (ev T C e) fun v σ h=>.ret v σ h
 | .retO i=>fun σ h=>match σ[i]? with
  | some (.own v)=>.ret v (σ.set i .un) h
  | _=>.stuck
 | .retT ms es=>zaZ (evs T C es) fun vs σ h=>match partsOf ms vs σ with
  | some ws=>if ws.length≤line then .ret (.tup false ws) σ h else .stuck
  | Option.none=>.stuck
 | .asgT ts e=>zaZ (ev T C e) fun v σ h=>match v with
  | .tup _ vs=>(match setPT ts vs σ h with
   | some (σ',h')=>.nx σ' h'
   | Option.none=>.stuck)
  | _=>.stuck
 | .raise c es=>zaZ (evs T C es) fun vs σ h=>match vs with
  | []=>.exn c Option.none σ h
  | [v]=>.exn c (some v) σ h
  | _=>.stuck
 | .try b hs=>fun σ h=>match exs T C b σ h with
  | .exn c x σ' h'=>exh T C hs c x σ' h'
  | r=>r
 | .tryR b d s e=>fun σ h=>match exs T C b σ h with
  | .exn c x σ' h'=>if T.excs c d then (match exs T C s σ' h' with
   | .nx σ2 h2=>(match ev T C e σ2 h2 with
    | .ok v σ3 h3=>(match truthy v with
     | some true=>.exn c x σ3 h3
     | some false=>.nx σ3 h3
     | Option.none=>.stuck)
    | _=>.stuck)
   | _=>.stuck) else .exn c x σ' h'
  | r=>r
 | .reraise=>fun _ _=>.stuck
 | .never=>fun _ _=>.stuck
 | .pass=>fun σ h=>.nx σ h
 | .brk=>fun σ h=>.brk σ h
 | .cont=>fun σ h=>.cont σ h
 | .scrub keep=>fun σ h=>if (keep.all fun i=>match (σ.getD i .un : Slot) with
   | .val v=>!hasRef v
   | _=>false) then .nx ((List.range σ.length).map fun i=>if keep.contains i then σ.getD i .un else match σ.getD i .un with
    | .cell c=>.cell c
    | _=>.un) ⟨[],(List.range h.cells.length).map fun _=>Option.none⟩ else .stuck
def exs (T : Tbl) (C : Callee) : Stms→Fr→MH→SRes
 | .nil=>fun σ h=>.nx σ h
 | .cons s r=>seqS (ex T C s) (exs T C r)
def exh (T : Tbl) (C : Callee) : Hdls→Nat→Option Val→Fr→MH→SRes
 | .nil,c,x=>fun σ h=>.exn c x σ h
 | .cons d b s r,c,x=>if T.excs c d then fun σ h=>(match b with
   | Option.none=>(match exs T C s σ h with
     | .exn _ _ _ _=>.stuck
     | r=>r)
   | some i=>if zbU σ i then (match exs T C s (σ.set i (.exc c x)) h with
     | .nx σ' h'=>.nx (σ'.set i .un) h'
     | .ret v σ' h'=>.ret v (σ'.set i .un) h'
     | .exn _ _ _ _=>.stuck
     | .brk σ' h'=>.brk (σ'.set i .un) h'
     | .cont σ' h'=>.cont (σ'.set i .un) h'
     | .stuck=>.stuck) else .stuck) else exh T C r c x
end

def zle : List Nat→Fr→MH→Option (Fr × MH)
 | [],σ,h=>some (σ,h)
 | i :: r,σ,h=>match σ[i]? with
  | some (.val v)=>zle r (σ.set i (.cell h.cells.length)) { h with cells:=h.cells ++ [some v] }
  | _=>Option.none
def zec : List Nat→Fr→MH→Fr × MH
 | [],σ,h=>(σ,h)
 | i :: r,σ,h=>zec r (σ.set i (.cell h.cells.length)) { h with cells:=h.cells ++ [Option.none] }
def isSet (h : MH) (c : Nat) : Bool:=match h.cells[c]? with
 | some (some _)=>true
 | _=>false
def enter (d : Def) (args : List Slot) (cs : List Nat) (h : MH) : Option (Fr × MH) :=
 if args.length=d.params∧cs.length=d.caps∧cs.all (isSet h)=true then
  (zle d.za1 (args ++ (cs.map Slot.cell ++ List.replicate (d.slots - d.params - d.caps) .un)) h).map fun sh=>zec d.cells sh.1 sh.2
 else Option.none
def zfZ (d : Def) (σ : Fr) (h : MH) : MH:=if d.esc then h else { h with cells:=zdG h.cells (σ.take d.params ++ σ.drop (d.params + d.caps)) }
def leave (d : Def) : SRes→CRes
 | .nx σ h=>.ok .none (σ.take d.params) (zfZ d σ h)
 | .ret v σ h=>.ok v (σ.take d.params) (zfZ d σ h)
 | .exn c x σ h=>.exn c x (σ.take d.params) (zfZ d σ h)
 | .stuck=>.stuck
 | _=>.stuck
def call (T : Tbl) : Nat→Callee
 | 0,_,_,_=>.stuck
 | n + 1,.fn g,args,h=>match T.defs g with
  | some d=>(match enter d args [] h with
   | some (σ,h')=>leave d (exs T (call T n) d.body σ h')
   | Option.none=>.stuck)
  | Option.none=>.stuck
 | n + 1,.lam l cs,args,h=>match T.lams l with
  | some d=>(match enter d args cs h with
   | some (σ,h')=>leave d (exs T (call T n) d.body σ h')
   | Option.none=>.stuck)
  | Option.none=>.stuck
end
end Fx
end
section
set_option maxHeartbeats 4000000
namespace Fx
open PySem PySem.Spec PyProof.Rows L2
mutual
/-- x is the key k -/
inductive NK (K : PySem.W.Frag) (H : Hp) : NestedKey→V→Prop
 | none : NK K H .none .non
 | bool (b : Bool) : NK K H (.num (if b=true then 1 else 0)) (.bl b)
 | int (i : Int) : NK K H (.num i) (.int i)
 | text (x : Str) : NK K H (.text x) (.str x)
 | tup {p xs ks} : SqT K H p xs→NKs K H ks xs→NK K H (.tup ks) (.ref p)
inductive NKs (K : PySem.W.Frag) (H : Hp) : List NestedKey→List V→Prop
 | nil : NKs K H [] []
 | cons {k x ks xs} : NK K H k x→NKs K H ks xs→NKs K H (k :: ks) (x :: xs)
end
section
variable {X : Cx} {pins : List (Addr × Obj)} {σ : L2.St} {H : Hp} {s : Shared}
mutual
theorem NK.is (I : Inv X pins σ H s) : ∀ {k : NestedKey} {x : V} {v : Value},NK X.K H k x→RelV x v→NestedIs s.heap k v
 | _,_,_,.none,r=>by cases r; exact .none
 | _,_,_,.bool b,r=>by cases r; exact .bool rfl
 | _,_,_,.int i,r=>by obtain ⟨t,rfl⟩:=r; exact .int _ _
 | _,_,_,.text x,r=>by obtain ⟨t,rfl⟩:=r; exact .text _ _
 | _,_,_,.tup (p:=p) (xs:=xs) rd ks,r=>by
  cases r
  obtain ⟨its,rv,⟨o,ho,hc,n,hd⟩,_⟩:=I.tuple rd
  exact .tup ho hc hd (by simpa using NKs.are I ks rv)
theorem NKs.are (I : Inv X pins σ H s) : ∀ {ks : List NestedKey} {xs : List V} {vs : List Value},NKs X.K H ks xs→Vals xs vs→NestedAll s.heap ks vs
 | _,_,_,.nil,r=>by cases r; exact .nil
 | _,_,_,.cons a b,r=>by
  cases r with
  | cons r1 r2=>exact .cons (NK.is I a r1) (NKs.are I b r2)
end
end
section
variable {P : Program} {w : World} {K : PySem.W.Frag} {H H' : Hp} {h h' : Heap}

abbrev NE:=NestedKey × Addr × V
abbrev KN (es : List NE) (vs : List (NestedKey × Addr × Value)) : Prop:=Paired (fun p q=>p.1=q.1∧p.2.1=q.2.1∧RelV p.2.2 q.2.2) es vs
def dN (P : Program) (w : World) (d : Addr) (es : List NE) : HO:=.ext fun h=>es.length≤sizeLine∧(d == sysModules)=false∧∃ vs,KN es vs ∧
 ∃ o ees ep,h.get? d=some o∧o.ExactDict∧o.data = .dict ees ep∧ees.toList=vs.map (entryOfKey (nestedKind P w))∧(vs.map (·.1)).Nodup
def zq3 (K : PySem.W.Frag) (H : Hp) (es : List NE) : Prop:=∀ e∈es,NK K H e.1 (.ref e.2.1)∧e.1.depth≤8
theorem KN.mem {es : List NE} {vs : List (NestedKey × Addr × Value)} : KN es vs→∀ q∈vs,∃ p∈es,p.1=q.1∧p.2.1=q.2.1
 | .nil,q,hq=>by cases hq
 | .cons r t,q,hq=>by
  rcases List.mem_cons.mp hq with rfl | hq
  ·exact ⟨_,List.mem_cons_self,r.1,r.2.1⟩
  ·obtain ⟨p,hp,e⟩:=KN.mem t q hq
   exact ⟨p,List.mem_cons_of_mem _ hp,e⟩
theorem dn_rd {X : Cx} {pins : List (Addr × Obj)} {σ : L2.St} {s : Shared} {d : Addr} {es : List NE} (I : Inv X pins σ H s) (e : Rd H d (dN X.prog X.w d es)) (ks : zq3 X.K H es) :
  es.length≤sizeLine∧(d == sysModules)=false∧∃ vs,KN es vs∧s.heap.DictOfH (nestedKind X.prog X.w) d vs:=by
 obtain ⟨⟨z,hd,vs,kn,o,ees,ep,h1,h2,h3,h4,h5⟩,_⟩:=(show ObjOk X.prog X.w H s.heap d (dN X.prog X.w d es) from rd_of I.hok e)
 refine ⟨z,hd,vs,kn,o,ees,ep,h1,h2,h3,h4,fun x hx=>?_,h5⟩
 obtain ⟨p,hp,e1,e2⟩:=kn.mem x hx
 obtain ⟨k1,k2⟩:=ks p hp
 rw [e1] at k1 k2
 rw [e2] at k1
 exact ⟨NK.is I k1 rfl,k2⟩
theorem dn_new {d : Addr} {es : List NE} {vs : List (NestedKey × Addr × Value)} (z : es.length≤sizeLine) (hd : (d == sysModules)=false) (kn : KN es vs) (dd : h'.DictOfH (nestedKind P w) d vs) : ObjOk P w H' h' d (dN P w d es):=by
 obtain ⟨o,ees,ep,h1,h2,h3,h4,h5,h6⟩:=dd
 refine ⟨⟨z,hd,vs,kn,o,ees,ep,h1,h2,h3,h4,h6⟩,⟨o,h1⟩,fun g1 g2 q k=>?_⟩
 obtain ⟨z,hd,vs,kn,o,ees,ep,h1,h2,h3,h4,h6⟩:=q
 exact ⟨z,hd,vs,kn,o,ees,ep,k _ h1,h2,h3,h4,h6⟩
theorem dn_nil {d : Addr} (ok : HOk P w H h) (e : Rd H d (.dK [])) : (d == sysModules)=false∧h.DictOfH (nestedKind P w) d []:=by
 obtain ⟨z,hd,vs,kv,o,ees,ep,h1,h2,h3,h4,h5,h6⟩:=dk_rd ok e
 cases kv
 have : ees = #[]:=by
  have:=h5.length
  exact Array.eq_empty_of_size_eq_zero (by simpa using this)
 subst this
 exact ⟨hd,o,#[],ep,h1,h2,h3,rfl,(fun x hx=>nomatch hx),List.nodup_nil⟩
def IsN (P : Program) (w : World) (H : Hp) (d : Addr) (es : List NE) : Prop:=(es = []∧Rd H d (.dK []))∨Rd H d (dN P w d es)
theorem isn_of {X : Cx} {pins : List (Addr × Obj)} {σ : L2.St} {s : Shared} {d : Addr} {es : List NE} (I : Inv X pins σ H s) (e : IsN X.prog X.w H d es) (ks : zq3 X.K H es) : es.length≤sizeLine∧(d == sysModules)=false∧∃ vs,KN es vs∧s.heap.DictOfH (nestedKind X.prog X.w) d vs:=by
 rcases e with ⟨rfl,e⟩ | e
 ·obtain ⟨hd,dd⟩:=dn_nil I.hok e
  exact ⟨Nat.zero_le _,hd,[],.nil,dd⟩
 ·exact dn_rd I e ks
def atN (es : List NE) (k : NestedKey) : Option V:=(es.find? fun e=>decide (e.1=k)).map (·.2.2)
theorem KN.at {k : NestedKey} : ∀ {es : List NE} {vs : List (NestedKey × Addr × Value)},KN es vs→RelO (atN es k) (valueAt (pairsH vs) k)
 | _,_,.nil=>trivial
 | _,_,@Paired.cons _ _ _ p q ps qs r t=>by
  rw [valueAt_pairsH]
  unfold atN atKey
  rw [List.find?_cons,List.find?_cons,r.1]
  by_cases e : q.1=k
  ·simp only [e,decide_true]
   exact r.2.2
  ·simp only [e,decide_false]
   have:=KN.at (k:=k) t
   rw [valueAt_pairsH] at this
   exact this
theorem KN.atK {k : NestedKey} {es : List NE} {vs : List (NestedKey × Addr × Value)} (kn : KN es vs) : (atKey vs k).isSome=(atN es k).isSome:=by
 have:=(kn.at (k:=k)).isSome_eq
 rw [this,valueAt_pairsH,Option.isSome_map]
theorem KN.snoc {p : NE} {q : NestedKey × Addr × Value} (r : p.1=q.1∧p.2.1=q.2.1∧RelV p.2.2 q.2.2) : ∀ {es : List NE} {vs : List (NestedKey × Addr × Value)},KN es vs→KN (es ++ [p]) (vs ++ [q])
 | _,_,.nil=>.cons r .nil
 | _,_,.cons a t=>.cons a (KN.snoc r t)
def putN (es : List NE) (k : NestedKey) (a : Addr) (y : V) : List NE:=if (atN es k).isSome then es.map (fun e=>if e.1=k then (e.1,e.2.1,y) else e) else es ++ [(k,a,y)]
theorem KN.put {k : NestedKey} {a : Addr} {y : V} {v : Value} {es : List NE} {vs : List (NestedKey × Addr × Value)} (kn : KN es vs) (r : RelV y v) : KN (putN es k a y) (storedH vs k a v):=by
 unfold putN storedH
 rw [kn.atK]
 by_cases e : (atN es k).isSome=true
 ·rw [if_pos e,if_pos e]
  clear e
  induction kn with
  | nil=>exact .nil
  | @cons p q ps qs h t ih =>
   refine .cons ?_ ih
   unfold putAt
   dsimp only
   rw [h.1]
   by_cases e : q.1=k
   ·rw [if_pos e,if_pos e]; exact ⟨rfl,h.2.1,r⟩
   ·rw [if_neg e,if_neg e]; exact h
 ·rw [if_neg e,if_neg e]
  exact KN.snoc ⟨rfl,rfl,r⟩ kn
theorem zr8 (es : List NE) (k : NestedKey) (a : Addr) (y : V) : (putN es k a y).length≤es.length + 1:=by
 unfold putN
 split
 ·simp
 ·simp
theorem zq3.put {es : List NE} {k : NestedKey} {a : Addr} {y : V} (ks : zq3 K H es) (hk : NK K H k (.ref a)) (hd : k.depth≤8) : zq3 K H (putN es k a y):=by
 unfold putN
 split
 ·intro e he
  obtain ⟨e',h1,rfl⟩:=List.mem_map.mp he
  split
  ·rename_i z; exact ks e' h1
  ·exact ks e' h1
 ·intro e he
  rcases List.mem_append.mp he with z | z
  ·exact ks e z
  ·rw [List.mem_singleton.mp z]; exact ⟨hk,hd⟩
def mergeN (es more : List NE) : List NE:=more.foldl (fun acc e=>putN acc e.1 e.2.1 e.2.2) es
end

section
variable {X : Cx} {pins : List (Addr × Obj)} {σ : L2.St} {H : Hp} {s : Shared}
theorem room_in1 (hu : X.A.units + 9 < cLine) : X.A.in1.units + 8 < cLine:=by rw [Around.in1_units]; omega
def KeyAsk (X : Cx) (H : Hp) (x y : V) (es : List NE) (k : NestedKey) : Prop:=∃ d a,y = .ref d∧x = .ref a∧IsN X.prog X.w H d es∧zq3 X.K H es∧NK X.K H k (.ref a)∧k.depth≤8
theorem op_subN (hu : X.A.units + 9 < cLine) : OpR X getItem (fun y x H Q=>∃ es k v,KeyAsk X H x y es k∧atN es k=some v∧Q v H):=by
 intro pins s σ H y x u v Q I ry rx hq
 obtain ⟨es,k,z,⟨d,a,rfl,rfl,isn,ks,nk,dp⟩,ez,q⟩:=hq
 cases rx
 cases ry
 obtain ⟨_,hd,vs,kn,dd⟩:=isn_of I isn ks
 obtain ⟨w',hw,rw'⟩:=RelO.some_of (v:=z) (o:=valueAt (pairsH vs) k) (by rw [← ez]; exact kn.at)
 exact getItem_keyed (knd:=nestedKind X.prog X.w) (room_in1 hu) ⟨NK.is I nk rfl,dp⟩ ⟨vs,dd,rfl⟩ hw ⟨z,H,I.tok _,rw',q⟩
theorem dn_write {d : Addr} {es es' : List NE} {vs' : List (NestedKey × Addr × Value)} {h' : Heap} {tk : Nat} (I : Inv X pins σ H s) (isn : H d=some (.dK [])∨H d=some (dN X.prog X.w d es)) (z : es'.length≤sizeLine) (hd : (d == sysModules)=false) (kn : KN es' vs') (dd : h'.DictOfH (nestedKind X.prog X.w) d vs') (hs : Heap.SameBut d s.heap h') :
  Inv X pins σ (upd H d (dN X.prog X.w d es')) { s with heap:=h',toks:=tk }:=by
 have he : ∃ q,h'.get? d=some q:=let ⟨q,_,_,hq,_⟩:=dd; ⟨q,hq⟩
 exact d_write I (by rcases isn with e | e <;> rw [e] <;> exact True.intro) hs he (dn_new z hd kn dd)
def IsN1 (P : Program) (w : World) (H : Hp) (d : Addr) (es : List NE) : Prop:=(es = []∧H d=some (.dK []))∨H d=some (dN P w d es)
theorem IsN1.rd {P : Program} {w : World} {d : Addr} {es : List NE} (e : IsN1 P w H d es) : IsN P w H d es:=e.elim (fun z=>.inl ⟨z.1,.inl z.2⟩) fun z=>.inr (.inl z)
theorem IsN1.w {P : Program} {w : World} {d : Addr} {es : List NE} (e : IsN1 P w H d es) : H d=some (.dK [])∨H d=some (dN P w d es):=e.imp (·.2) id
def rSetN (X : Cx) : TSet:=fun o i v H Q=>∃ d a es k,o = .ref d∧i = .ref a∧IsN1 X.prog X.w H d es∧zq3 X.K H es∧NK X.K H k (.ref a)∧k.depth≤8∧es.length < sizeLine∧Q (upd H d (dN X.prog X.w d (putN es k a v)))
theorem set_N (hu : X.A.units + 9 < cLine) : PSet X (rSetN X):=by
 intro pins s σ H o i v ov iv u Q I ro ri rv hq
 obtain ⟨d,a,es,k,rfl,rfl,isn,ks,nk,dp,hl,q⟩:=hq
 obtain rfl : ov=Value.ref d:=ro
 obtain rfl : iv=Value.ref a:=ri
 obtain ⟨z,hd,vs,kn,dd⟩:=isn_of I isn.rd ks
 refine wpAny_setItem_heap (knd:=nestedKind X.prog X.w) (hsz:=by rw [← kn.length]; exact z) (room_in1 hu) ⟨NK.is I nk rfl,dp⟩ dd fun h' dd' hs=>?_
 exact ⟨_,dn_write I isn.w (Nat.le_trans (zr8 es k a v) hl) hd (kn.put rv) dd' hs,q⟩
end
end Fx
namespace Fx
open PySem PySem.Spec PyProof.Rows L2
end Fx
end
section
set_option maxHeartbeats 4000000
namespace Fx
open PySem PySem.Spec PyProof.Rows L2
inductive ziS (h : Heap) : List Value→List (List Int)→Prop
 | nil : ziS h [] []
 | cons {b its ns vs r} : IsTup h b its→IntsAre its.toList ns→ziS h vs r→ziS h (.ref b :: vs) (ns :: r)
def IsRow (h : Heap) (v : Value) (r : List (List Int)) : Prop:=∃ a its,v = .ref a∧IsTup h a its∧ziS h its.toList r
theorem ziS.keeps {h h' : Heap} (k : ∀ b o,h.get? b=some o→o.cls = .type "tuple"→h'.get? b=some o) : ∀ {vs : List Value} {r : List (List Int)},ziS h vs r→ziS h' vs r
 | _,_,.nil=>.nil
 | _,_,.cons ⟨o,ho,hc,n,hd⟩ i t=>.cons ⟨o,k _ _ ho hc,hc,n,hd⟩ i (ziS.keeps k t)
theorem IsRow.keeps {h h' : Heap} (k : ∀ b o,h.get? b=some o→o.cls = .type "tuple"→h'.get? b=some o) {v : Value} {r : List (List Int)} (x : IsRow h v r) : IsRow h' v r:=by
 obtain ⟨a,its,e,⟨o,ho,hc,n,hd⟩,q⟩:=x
 exact ⟨a,its,e,⟨o,k _ _ ho hc,hc,n,hd⟩,q.keeps k⟩
end Fx
namespace Fx
open PySem PySem.Spec PyProof.Rows L2
end Fx
end
section
set_option maxHeartbeats 4000000
namespace Fx
open PySem PySem.Spec PyProof.Rows L2
end Fx
end
section
set_option maxHeartbeats 4000000
namespace Fx
open PySem PySem.Spec PyProof.Rows L2

inductive zaB where
 | slot (i : Nat) | sub (i : Nat) | obj (a : Nat) | fld (a f : Nat) | tab
 deriving DecidableEq
structure Glb where
 P : Program
 w : World
 K : PySem.W.Frag
 fnA : Nat→Option Addr
 clsA : Nat→Option Addr
 fldN : Nat→Str
 /-- the object of a lambda at an address over its cells -/
 lamO : Nat→Option (Addr→List Addr→Addr→HO)
 /-- the name of a lambda's code object -/
 lamQ : Nat→Str
 /-- tables of code objects: at an address,the names by place -/
 tab : Addr→Option (Nat→Nat→Str)
 /-- classes of the exceptions that are held as values -/
 exV : Nat→Option Addr
structure Wd where
 Z : Hp
 /-- what a walk holds,for ever -/
 F : Addr→Option Obj
 ι : List Addr
 κ : List Addr
 own : Addr→Option zaB
 /-- the fields that have been stored -/
 asn : Nat→Nat→Prop
 /-- cells that are gone -/
 dd : Nat→Prop
 /-- code objects made at run time: their tables,their names -/
 ct : Addr→Option (Addr × Str)
def zen (c : Addr) (q : Str) (P : Addr) : HO:=.ext fun h=>(∃ (oc : Obj) (vs : Array Value) (t : Tok),h.get? c=some oc∧oc.data = .fields vs∧vs[1]? = some (.str q t))∧PySem.W.CodeHd h c P
def zbk (a : Addr) (o : Obj) : HO:=.frz o (.frz o (.own a))
def RelC (x : V) (o : Obj) : Prop:=∃ u,o.data = .cell (some u)∧RelV x u
def kyOf : Val→Option Key
 | .int i=>some (.inl i)
 | .str s=>some (.inr s)
 | _=>Option.none
mutual
/-- the nested key that a value is -/
def kyN : Val→Option NestedKey
 | .none=>some .none
 | .bool b=>some (.num (if b=true then 1 else 0))
 | .int i=>some (.num i)
 | .str s=>some (.text s)
 | .tup _ l=>(kyNs l).map .tup
 | _=>Option.none
def kyNs : List Val→Option (List NestedKey)
 | []=>some []
 | a :: as=>match kyN a,kyNs as with
  | some k,some ks=>some (k :: ks)
  | _,_=>Option.none
end
mutual
/-- x is the value v: all that it leans on stands for ever -/
inductive Rp (G : Glb) (W : Wd) : Val→V→Prop
 | none : Rp G W .none .non
 | bool (b : Bool) : Rp G W (.bool b) (.bl b)
 | int (i : Int) : Rp G W (.int i) (.int i)
 | str (s : Str) : Rp G W (.str s) (.str s)
 | tup {b l p vs} : SqT G.K W.Z p vs→Rps G W l vs→(b=true→∃ od : Obj,W.F p=some od∧od.dict=none∧od.cls = .type "tuple"∧∃ its n,od.data = .seq its n)→Rp G W (.tup b l) (.ref p)
 | lst {l p vs} : SqL G.K W.Z p vs→Rps G W l vs→Rp G W (.lst l) (.ref p)
 | dct {l p o} : Rd W.Z p o→DctR G W p l o→Rp G W (.dct l) (.ref p)
 | ref {a p} : W.ι[a]? = some p→Rp G W (.ref a) (.ref p)
 | fn {g p} : G.fnA g=some p→Rp G W (.fn g) (.ref p)
 | exc0 {c f p C} : G.exV c=some C→W.Z p=some (exo p C none)→Rp G W (.exc c f []) (.ref p)
 | exc1 {c f a p C dx x} : G.exV c=some C→W.Z p=some (exo p C (some dx))→W.Z dx=some (exd dx [(G.fldN f,x)])→Rp G W a x→Rp G W (.exc c f [a]) (.ref p)
 | clo {l cs as f o k} : G.lamO l=some o→(cs.map fun c=>W.κ[c]?)=as.map some→W.Z f=some (o f as k)→(∃ P,W.ct k=some (P,G.lamQ l))→Rp G W (.clo l cs) (.ref f)
inductive Rps (G : Glb) (W : Wd) : List Val→List V→Prop
 | nil : Rps G W [] []
 | cons {v x l xs} : Rp G W v x→Rps G W l xs→Rps G W (v :: l) (x :: xs)
inductive Ents (G : Glb) (W : Wd) : List (Val × Val)→List (Key × V)→Prop
 | nil : Ents G W [] []
 | cons {k v kk vx l es} : kyOf k=some kk→Rp G W v vx→Ents G W l es→Ents G W ((k,v) :: l) ((kk,vx) :: es)
/-- the entries of a dict whose keys are nested tuples -/
inductive zcY (G : Glb) (W : Wd) : List (Val × Val)→List NE→Prop
 | nil : zcY G W [] []
 | cons {k v kk a vx l es} : kyN k=some kk→isKn k=true→Rp G W k (.ref a)→Rp G W v vx→zcY G W l es→zcY G W ((k,v) :: l) ((kk,a,vx) :: es)
/-- the object that a dict is -/
inductive DctR (G : Glb) (W : Wd) : Addr→List (Val × Val)→HO→Prop
 | flat {p l kvs} : Ents G W l kvs→DctR G W p l (.dK kvs)
 | nest {p l es} : es≠[]→zcY G W l es→DctR G W p l (dN G.P G.w p es)
end

structure Wle (W W' : Wd) : Prop where
 Z : ∀ p o,W.Z p=some o→W'.Z p=some o
 F : ∀ p o,W.F p=some o→W'.F p=some o
 ι : ∀ (a : Nat) p,W.ι[a]? = some p→W'.ι[a]? = some p
 κ : ∀ (a : Nat) p,W.κ[a]? = some p→W'.κ[a]? = some p
 L : ∀ p vs,W.Z p=some (.lst vs)→W.F p=none→W'.F p=none
 dd : ∀ c,c < W.κ.length→(W'.dd c↔W.dd c)
 ct : ∀ k x,W.ct k=some x→W'.ct k=some x
theorem Wle.refl (W : Wd) : Wle W W:=⟨fun _ _ h=>h,fun _ _ h=>h,fun _ _ h=>h,fun _ _ h=>h,fun _ _ _ h=>h,fun _ _=>Iff.rfl,fun _ _ h=>h⟩
theorem Wle.klen {W W' : Wd} (a : Wle W W') {c : Nat} (h : c < W.κ.length) : c < W'.κ.length:=(List.getElem?_eq_some_iff.mp (a.κ c _ (List.getElem?_eq_getElem h))).1
theorem Wle.trans {W W1 W2 : Wd} (a : Wle W W1) (b : Wle W1 W2) : Wle W W2 :=
 ⟨fun p o h=>b.Z p o (a.Z p o h),fun p o h=>b.F p o (a.F p o h),fun p o h=>b.ι p o (a.ι p o h),fun p o h=>b.κ p o (a.κ p o h),fun p vs z f=>b.L p vs (a.Z p _ z) (a.L p vs z f),fun c l=>(b.dd c (a.klen l)).trans (a.dd c l),fun k x h=>b.ct k x (a.ct k x h)⟩
theorem Rd.le {Z Z' : Hp} (h : ∀ p o,Z p=some o→Z' p=some o) {p : Addr} {u : HO} (r : Rd Z p u) : Rd Z' p u:=by
 rcases r with r | ⟨o,r⟩
 ·exact .inl (h _ _ r)
 ·exact .inr ⟨o,h _ _ r⟩
theorem Rd.le' {Z H : Hp} (h : ∀ p o,Z p=some o→Rd H p o∧∀ od u,o≠.frz od u) {p : Addr} {u : HO} (r : Rd Z p u) : Rd H p u:=by
 rcases r with r | ⟨o,r⟩
 ·exact (h _ _ r).1
 ·exact absurd rfl ((h _ _ r).2 o u)
theorem SqT.le' {K : PySem.W.Frag} {Z H : Hp} (h : ∀ p o,Z p=some o→Rd H p o∧∀ od u,o≠.frz od u) {p : Addr} {xs : List V} (r : SqT K Z p xs) : SqT K H p xs:=by
 rcases r with r | r
 ·exact .inl (Rd.le' h r)
 ·exact .inr r
theorem SqL.le' {K : PySem.W.Frag} {Z H : Hp} (h : ∀ p o,Z p=some o→Rd H p o∧∀ od u,o≠.frz od u) {p : Addr} {xs : List V} (r : SqL K Z p xs) : SqL K H p xs:=by
 rcases r with r | r
 ·exact .inl (Rd.le' h r)
 ·exact .inr r
theorem SqT.le {K : PySem.W.Frag} {Z Z' : Hp} (h : ∀ p o,Z p=some o→Z' p=some o) {p : Addr} {xs : List V} (r : SqT K Z p xs) : SqT K Z' p xs:=by
 rcases r with r | r
 ·exact .inl (Rd.le h r)
 ·exact .inr r
theorem SqL.le {K : PySem.W.Frag} {Z Z' : Hp} (h : ∀ p o,Z p=some o→Z' p=some o) {p : Addr} {xs : List V} (r : SqL K Z p xs) : SqL K Z' p xs:=by
 rcases r with r | r
 ·exact .inl (Rd.le h r)
 ·exact .inr r
structure Wlo (W W' : Wd) : Prop where
 Z : ∀ p o,W.Z p=some o→W'.Z p=some o
 F : ∀ p o,W.F p=some o→W'.F p=some o
 ι : ∀ (a : Nat) p,W.ι[a]? = some p→W'.ι[a]? = some p
 κ : ∀ (a : Nat) p,W.κ[a]? = some p→W'.κ[a]? = some p
 ct : ∀ k x,W.ct k=some x→W'.ct k=some x
theorem Wle.lo {W W' : Wd} (w : Wle W W') : Wlo W W':=⟨w.Z,w.F,w.ι,w.κ,w.ct⟩
theorem zrp {W W' : Wd} (w : Wlo W W') : ∀ {cs : List Nat} {as : List Addr},(cs.map fun c=>W.κ[c]?)=as.map some→(cs.map fun c=>W'.κ[c]?)=as.map some
 | [],[],_=>rfl
 | [],_ :: _,h=>by cases h
 | _ :: _,[],h=>by cases h
 | c :: cs,a :: as,h=>by
  simp only [List.map_cons,List.cons.injEq] at h ⊢
  exact ⟨w.κ _ _ h.1,zrp w h.2⟩
mutual
theorem Rp.lo {G : Glb} {W W' : Wd} (w : Wlo W W') : ∀ {v : Val} {x : V},Rp G W v x→Rp G W' v x
 | _,_,.none=>.none
 | _,_,.bool b=>.bool b
 | _,_,.int i=>.int i
 | _,_,.str s=>.str s
 | _,_,.tup h r k=>.tup (SqT.le w.Z h) (Rps.lo w r) fun e=>let ⟨od,a,b⟩:=k e; ⟨od,w.F _ _ a,b⟩
 | _,_,.lst h r=>.lst (SqL.le w.Z h) (Rps.lo w r)
 | _,_,.dct h r=>.dct (Rd.le w.Z h) (DctR.lo w r)
 | _,_,.ref h=>.ref (w.ι _ _ h)
 | _,_,.fn h=>.fn h
 | _,_,.exc0 h1 h2=>.exc0 h1 (w.Z _ _ h2)
 | _,_,.exc1 h1 h2 h3 r=>.exc1 h1 (w.Z _ _ h2) (w.Z _ _ h3) (Rp.lo w r)
 | _,_,.clo h1 h2 h3 h4=>.clo h1 (zrp w h2) (w.Z _ _ h3) (let ⟨P,e⟩:=h4; ⟨P,w.ct _ _ e⟩)
theorem Rps.lo {G : Glb} {W W' : Wd} (w : Wlo W W') : ∀ {l : List Val} {xs : List V},Rps G W l xs→Rps G W' l xs
 | _,_,.nil=>.nil
 | _,_,.cons r t=>.cons (Rp.lo w r) (Rps.lo w t)
theorem Ents.lo {G : Glb} {W W' : Wd} (w : Wlo W W') : ∀ {l : List (Val × Val)} {es : List (Key × V)},Ents G W l es→Ents G W' l es
 | _,_,.nil=>.nil
 | _,_,.cons h0 h4 t=>.cons h0 (Rp.lo w h4) (Ents.lo w t)
theorem zcY.lo {G : Glb} {W W' : Wd} (w : Wlo W W') : ∀ {l : List (Val × Val)} {es : List NE},zcY G W l es→zcY G W' l es
 | _,_,.nil=>.nil
 | _,_,.cons h0 hk h3 h4 t=>.cons h0 hk (Rp.lo w h3) (Rp.lo w h4) (zcY.lo w t)
theorem DctR.lo {G : Glb} {W W' : Wd} (w : Wlo W W') : ∀ {p : Addr} {l : List (Val × Val)} {o : HO},DctR G W p l o→DctR G W' p l o
 | _,_,_,.flat e=>.flat (Ents.lo w e)
 | _,_,_,.nest n e=>.nest n (zcY.lo w e)
end
theorem caps_le {W W' : Wd} (w : Wle W W') {cs : List Nat} {as : List Addr} (h : (cs.map fun c=>W.κ[c]?)=as.map some) : (cs.map fun c=>W'.κ[c]?)=as.map some:=zrp w.lo h
theorem Rp.le {G : Glb} {W W' : Wd} (w : Wle W W') {v : Val} {x : V} (r : Rp G W v x) : Rp G W' v x:=Rp.lo w.lo r
theorem Rps.le {G : Glb} {W W' : Wd} (w : Wle W W') {l : List Val} {xs : List V} (r : Rps G W l xs) : Rps G W' l xs:=Rps.lo w.lo r
theorem Ents.le {G : Glb} {W W' : Wd} (w : Wle W W') {l : List (Val × Val)} {es : List (Key × V)} (r : Ents G W l es) : Ents G W' l es:=Ents.lo w.lo r
theorem DctR.le {G : Glb} {W W' : Wd} (w : Wle W W') {p : Addr} {l : List (Val × Val)} {o : HO} (r : DctR G W p l o) : DctR G W' p l o:=DctR.lo w.lo r
theorem DctR.nfrz {G : Glb} {W : Wd} {p : Addr} {l : List (Val × Val)} {o : HO} (r : DctR G W p l o) (od : Obj) (u : HO) : o≠.frz od u:=by
 cases r with
 | flat e=>exact fun z=>HO.noConfusion z
 | nest n e=>exact fun z=>by unfold dN at z; exact HO.noConfusion z
theorem Rp.tupF {G : Glb} {W : Wd} {l : List Val} {p : Addr} {vs : List V} (h : SqT G.K W.Z p vs) (r : Rps G W l vs) : Rp G W (.tup false l) (.ref p):=.tup h r nofun
theorem Rp.unflag {G : Glb} {W : Wd} {b : Bool} {l : List Val} {x : V} (r : Rp G W (.tup b l) x) : Rp G W (.tup false l) x:=by
 cases r with
 | tup h r _=>exact .tup h r nofun
theorem Rps.length {G : Glb} {W : Wd} : ∀ {l : List Val} {xs : List V},Rps G W l xs→l.length=xs.length
 | _,_,.nil=>rfl
 | _,_,.cons _ t=>by simp [Rps.length t]
theorem Rps.get {G : Glb} {W : Wd} : ∀ {l : List Val} {xs : List V} {i : Nat} {v : Val},Rps G W l xs→l[i]? = some v→∃ x,xs[i]? = some x∧Rp G W v x
 | _,_,_,_,.nil,e=>by simp at e
 | _,_,0,_,.cons r _,e=>by simp at e; subst e; exact ⟨_,rfl,r⟩
 | _,_,i + 1,v,.cons _ t,e=>by
  obtain ⟨x,h1,h2⟩:=Rps.get (i:=i) (v:=v) t (by simpa using e)
  exact ⟨x,by simpa using h1,h2⟩
theorem Rps.append {G : Glb} {W : Wd} : ∀ {l m : List Val} {xs ys : List V},Rps G W l xs→Rps G W m ys→Rps G W (l ++ m) (xs ++ ys)
 | _,_,_,_,.nil,s=>s
 | _,_,_,_,.cons r t,s=>.cons r (Rps.append t s)
theorem Rps.take {G : Glb} {W : Wd} : ∀ {l : List Val} {xs : List V} (n : Nat),Rps G W l xs→Rps G W (l.take n) (xs.take n)
 | _,_,0,_=>.nil
 | _,_,_ + 1,.nil=>.nil
 | _,_,n + 1,.cons r t=>.cons r (Rps.take n t)
theorem Rps.drop {G : Glb} {W : Wd} : ∀ {l : List Val} {xs : List V} (n : Nat),Rps G W l xs→Rps G W (l.drop n) (xs.drop n)
 | _,_,0,r=>r
 | _,_,_ + 1,.nil=>.nil
 | _,_,n + 1,.cons _ t=>Rps.drop n t
theorem Rps.set {G : Glb} {W : Wd} {v : Val} {x : V} (r : Rp G W v x) : ∀ {l : List Val} {xs : List V} (i : Nat),Rps G W l xs→Rps G W (l.set i v) (xs.set i x)
 | _,_,_,.nil=>.nil
 | _,_,0,.cons _ t=>.cons r t
 | _,_,i + 1,.cons q t=>.cons q (Rps.set r i t)
def Cur (G : Glb) (W : Wd) (H : Hp) (v : Val) (p : Addr) : Prop:=match v with
 | .lst l=>∃ vs,H p=some (.lst vs)∧Rps G W l vs
 | .dct l=>∃ o,H p=some o∧DctR G W p l o
 | _=>False
def Cur2 (G : Glb) (W : Wd) (H : Hp) (i : Nat) (v : Val) (p : Addr) : Prop:=match v with
 | .lst l=>∃ qs : List Addr,H p=some (.lst (qs.map V.ref))∧qs.Nodup∧Paired (fun m q=>W.own q=some (.sub i)∧Cur G W H m q) l qs
 | _=>False
structure Xm where
 i : Nat
 a : Addr
 cls : Value
 d : Option Addr
 f : Str
 c : Nat
structure Cm where
 c : Nat→Option Nat
 a : Nat→Option Addr
 e : Option Xm:=none
 /-- the running lambda's code object,its name -/
 k : Option (Addr × Str):=none
abbrev Ec:=Cm
structure KK (W : Wd) (ec : Ec) : Prop where
 one : ∀ i c,ec.c i=some c→∃ a,ec.a i=some a∧W.κ[c]? = some a
 two : ∀ i c,ec.c i=some c→¬ W.dd c
 run : ∀ k q,ec.k=some (k,q)→∃ P,W.ct k=some (P,q)
def ExcAt (G : Glb) (W : Wd) (i n : Nat) (m : Option Xm) (v : Option Val) (x : V) : Prop :=
 ∃ k,m=some k∧k.i=i∧x = .ref k.a∧k.c=n∧∀ v',v=some v'→k.f≠""→∃ dd y,k.d=some dd∧W.Z dd=some (.xd [(k.f,y)])∧Rp G W v' y
theorem ExcAt.lo {G : Glb} {W W' : Wd} {i n : Nat} {m : Option Xm} {v : Option Val} {x : V} (w : Wlo W W') (e : ExcAt G W i n m v x) : ExcAt G W' i n m v x:=by
 obtain ⟨k,a,b,c,cc,d⟩:=e
 refine ⟨k,a,b,c,cc,fun v' e n=>?_⟩
 obtain ⟨dd,y,h1,h2,h3⟩:=d v' e n
 exact ⟨dd,y,h1,w.Z _ _ h2,h3.lo w⟩
theorem ExcAt.le {G : Glb} {W W' : Wd} {i n : Nat} {m : Option Xm} {v : Option Val} {x : V} (w : Wle W W') (e : ExcAt G W i n m v x) : ExcAt G W' i n m v x:=e.lo w.lo
def zbO (G : Glb) (W : Wd) (H : Hp) (N : List Str) (ec : Ec) (σ : L2.St) (i : Nat) : Slot→Prop
 | .un=>True
 | .val v=>∃ x,σ[i]? = some (some x)∧Rp G W v x
 | .own v=>∃ p,σ[i]? = some (some (.ref p))∧W.own p=some (.slot i)∧Cur G W H v p
 | .own2 v=>∃ p,σ[i]? = some (some (.ref p))∧W.own p=some (.slot i)∧Cur2 G W H i v p
 | .cell c=>ec.c i=some c
 | .exc c v=>∃ x,σ[i]? = some (some x)∧ExcAt G W i c ec.e v x
structure FrR (G : Glb) (W : Wd) (H : Hp) (N : List Str) (ec : Ec) (fr : Fr) (σ : L2.St) : Prop where
 len : fr.length = σ.length
 at_ : ∀ (i : Nat) s,fr[i]? = some s→zbO G W H N ec σ i s
 inj : ∀ (i j c : Nat),fr[i]? = some (Slot.cell c)→fr[j]? = some (Slot.cell c)→i=j
def FldR (G : Glb) (W : Wd) (H : Hp) (a f : Nat) (vs : List (Str × V)) : Slot→Prop
 | .val v=>∃ x,vs.lookup (G.fldN f)=some x∧Rp G W v x
 | .own v=>∃ q,vs.lookup (G.fldN f)=some (.ref q)∧W.own q=some (.fld a f)∧Cur G W H v q
 | _=>False
def ObR (G : Glb) (W : Wd) (H : Hp) (a : Nat) (p : Addr) : Ob→Prop
 | .inst c fs=>∃ C dx vs,G.clsA c=some C∧H p=some (.ins C dx vs)∧(∀ f s,zkD fs f=some s→FldR G W H a f vs s) ∧
   (∀ n x,vs.lookup n=some x→∃ f s,G.fldN f=n∧zkD fs f=some s)∧fs.length=vs.length
 | .hl l=>Cur G W H (.lst l) p
 | .hd l=>Cur G W H (.dct l) p
structure ZinR (H : Hp) (W : Wd) (p : Addr) (o : HO) : Prop where
 rd : Rd H p o
 no : W.own p=none
 nf : ∀ od u,o≠.frz od u
 ls : ∀ vs,o = .lst vs→W.F p=none→H p=some o
def zog (W : Wd) (H : Hp) (P : Addr) (nm : Nat→Nat→Str) : Prop:=∃ ps : Array Value,H P=some (.tbl ps)∧TriplesOk ps.toList∧∀ (pos : Pos) (cv : Value),codeAmong pos ps.toList=some cv→∃ c P2,cv = .ref c∧W.ct c=some (P2,nm pos.line pos.col)
def inQ (q : Str) : Nat→Nat→Str:=fun _ _=>q ++ ".<locals>." ++ "<lambda>"
structure CtR (G : Glb) (W : Wd) (H : Hp) (k P : Addr) (q : Str) : Prop where
 z : W.Z k=some (zen k q P)
 ow : W.own P=some .tab
 nt : G.tab P=none
 tb : zog W H P (inQ q)
 inj : ∀ k2 q2,W.ct k2=some (P,q2)→k2=k
structure XR (G : Glb) (W : Wd) (H : Hp) (fr : Fr) : Prop where
 tab : ∀ P nm,G.tab P=some nm→W.own P=some .tab∧zog W H P nm
 ki : ∀ (c d : Nat) (a : Addr),¬ W.dd c→¬ W.dd d→W.κ[c]? = some a→W.κ[d]? = some a→c=d
 kt : ∀ (c : Nat) (a : Addr),¬ W.dd c→W.κ[c]? = some a→(∃ i : Nat,fr[i]? = some (Slot.cell c))∨∃ o,H a=some (zbk a o)
 ct : ∀ k P q,W.ct k=some (P,q)→CtR G W H k P q
theorem zog.mv {W W' : Wd} {H H' : Hp} {P : Addr} {nm : Nat→Nat→Str} (t : zog W H P nm) (hct : ∀ k x,W.ct k=some x→W'.ct k=some x) (hh : ∀ ps,H P=some (.tbl ps)→H' P=some (.tbl ps)) : zog W' H' P nm:=by
 obtain ⟨ps,h1,h2,h3⟩:=t
 exact ⟨ps,hh ps h1,h2,fun pos cv q=>let ⟨c,P2,a,b⟩:=h3 pos cv q; ⟨c,P2,a,hct _ _ b⟩⟩
theorem zog.keep {W W' : Wd} {H H' : Hp} {P : Addr} {nm : Nat→Nat→Str} (t : zog W H P nm) (hct : ∀ k x,W.ct k=some x→W'.ct k=some x) (hh : H' P=H P) : zog W' H' P nm:=t.mv hct fun ps e=>by rw [hh]; exact e
theorem CtR.mv {G : Glb} {W W' : Wd} {H H' : Hp} {k P : Addr} {q : Str} (x : CtR G W H k P q) (hz : ∀ p o,W.Z p=some o→W'.Z p=some o) (ow : W.own P=some .tab→W'.own P=some .tab) (hh : ∀ ps,H P=some (.tbl ps)→H' P=some (.tbl ps)) (hct : W'.ct=W.ct) : CtR G W' H' k P q :=
 ⟨hz _ _ x.z,ow x.ow,x.nt,x.tb.mv (fun k x e=>by rw [hct]; exact e) hh,fun k2 q2 e=>x.inj k2 q2 (by rw [← hct]; exact e)⟩
theorem CtR.keep {G : Glb} {W W' : Wd} {H H' : Hp} {k P : Addr} {q : Str} (x : CtR G W H k P q) (le : Wle W W') (ow : W.own P=some .tab→W'.own P=some .tab) (hh : W.own P=some .tab→H' P=H P) (hct : W'.ct=W.ct) : CtR G W' H' k P q :=
 x.mv le.Z ow (fun ps e=>by rw [hh x.ow]; exact e) hct
theorem XR.keep {G : Glb} {W W' : Wd} {H H' : Hp} {fr fr' : Fr} (x : XR G W H fr) (le : Wle W W') (ow : ∀ P,W.own P=some .tab→W'.own P=some .tab) (hh : ∀ P,W.own P=some .tab→H' P=H P) (hκ : W'.κ=W.κ)
  (hk : ∀ a o,H a=some (zbk a o)→H' a=H a) (hf : ∀ (i c : Nat),fr[i]? = some (Slot.cell c)→∃ j : Nat,fr'[j]? = some (Slot.cell c)) (hct : W'.ct=W.ct:=by rfl) : XR G W' H' fr':=by
 have dn : ∀ (c : Nat) (a : Addr),¬ W'.dd c→W.κ[c]? = some a→¬ W.dd c:=fun c a n e d=>n ((le.dd c (List.getElem?_eq_some_iff.mp e).1).mpr d)
 refine ⟨fun P nm e=>?_,fun c d a n1 n2 e1 e2=>?_,fun c a n1 e=>?_,fun k P q e=>?_⟩
 ·obtain ⟨o,t⟩:=x.tab P nm e
  exact ⟨ow P o,t.keep (fun k x e=>by rw [hct]; exact e) (hh P o)⟩
 ·rw [hκ] at e1 e2
  exact x.ki c d a (dn c a n1 e1) (dn d a n2 e2) e1 e2
 ·rw [hκ] at e
  rcases x.kt c a (dn c a n1 e) e with ⟨i,z⟩ | ⟨o,z⟩
  ·exact .inl (hf i c z)
  ·exact .inr ⟨o,by rw [hk a o z]; exact z⟩
 ·rw [hct] at e
  exact (x.ct k P q e).keep le (ow P) (hh P) hct
theorem XR.same {G : Glb} {W W' : Wd} {H : Hp} {fr : Fr} (x : XR G W H fr) (le : Wle W W') (ow : ∀ P,W.own P=some .tab→W'.own P=some .tab) (hκ : W'.κ=W.κ) (hct : W'.ct=W.ct:=by rfl) : XR G W' H fr :=
 x.keep le ow (fun _ _=>rfl) hκ (fun _ _ _=>rfl) (fun i _ z=>⟨i,z⟩) hct
structure HpR (G : Glb) (W : Wd) (H : Hp) (fr : Fr) (σ : L2.St) (h : MH) : Prop where
 zin : ∀ p o,W.Z p=some o→ZinR H W p o
 fin : ∀ p od,W.F p=some od→∃ u,W.Z p=some u∧H p=some (.frz od u)
 oin : ∀ p r,W.own p=some r→H p≠none
 uni : ∀ p q a f,W.own p=some (.fld a f)→W.own q=some (.fld a f)→p=q
 oas : ∀ q a f,W.own q=some (.fld a f)→W.asn a f
 asn : ∀ a f,W.asn a f↔(fieldOf h a f).isSome=true
 lι : W.ι.length=h.objs.length
 lk : W.κ.length=h.cells.length∧∀ (c : Nat) (v : Val),h.cells[c]? = some (some v)→¬ W.dd c
 objs : ∀ (a : Nat) o,h.objs[a]? = some o→∃ p,W.ι[a]? = some p∧W.own p=some (.obj a)∧ObR G W H a p o
 cells : ∀ (c : Nat) v,h.cells[c]? = some (some v)→(∃ (i : Nat) (x : V),fr[i]? = some (Slot.cell c)∧σ[i]? = some (some x)∧Rp G W v x) ∨
  ((∀ i : Nat,fr[i]?≠some (Slot.cell c))∧∃ a x u,W.κ[c]? = some a∧H a=some (zbk a u)∧RelC x u∧Rp G W v x)
 x : XR G W H fr
theorem HpR.lκ {G : Glb} {W : Wd} {H : Hp} {fr : Fr} {σ : L2.St} {h : MH} (r : HpR G W H fr σ h) : W.κ.length=h.cells.length:=r.lk.1
structure R (G : Glb) (W : Wd) (H : Hp) (N : List Str) (ec : Ec) (fr : Fr) (σ : L2.St) (h : MH) : Prop where
 f : FrR G W H N ec fr σ
 h : HpR G W H fr σ h
 kk : KK W ec
theorem R.k {G : Glb} {W : Wd} {H : Hp} {N : List Str} {ec : Ec} {fr : Fr} {σ : L2.St} {h : MH} (r : R G W H N ec fr σ h) : ∀ i c,ec.c i=some c→∃ a,ec.a i=some a∧W.κ[c]? = some a:=r.kk.1
theorem zpx {W W' : Wd} {ec : Ec} (le : Wle W W') (k : KK W ec) : KK W' ec :=
 ⟨fun i c e=>let ⟨a,h1,h2⟩:=k.1 i c e; ⟨a,h1,le.κ _ _ h2⟩,fun i c e n=>let ⟨_,_,h2⟩:=k.1 i c e; k.2 i c e ((le.dd c (List.getElem?_eq_some_iff.mp h2).1).mp n),fun k' q e=>let ⟨P,h⟩:=k.3 k' q e; ⟨P,le.ct _ _ h⟩⟩
structure Evo (W : Wd) (H : Hp) (W' : Wd) (H' : Hp) : Prop where
 le : Wle W W'
 stay : ∀ p o,H p=some o→W.Z p=none→W.own p=none→H' p=some o∧W'.own p=none
 thaw : ∀ p o,H p=some o→W.Z p=none→W.own p=none→W'.Z p=none
 asn : ∀ a f,W.asn a f→W'.asn a f
 hold : ∀ a f q,W.asn a f→W'.own q=some (.fld a f)→W.own q=some (.fld a f)
 dom : ∀ p,H' p=none→H p=none
 zih : ∀ p o r r',H p=some o→W.own p=some r→W'.own p=some r'→r' = r
 zown : ∀ p o,W.Z p=some o→W.own p=none→W'.own p=none
theorem Evo.refl (W : Wd) (H : Hp) : Evo W H W H:=⟨Wle.refl W,fun _ _ h _ n=>⟨h,n⟩,fun _ _ _ h _=>h,fun _ _ h=>h,fun _ _ _ _ h=>h,fun _ h=>h,fun _ _ r r' _ a b=>by rw [a] at b; cases b; rfl,fun _ _ _ n=>n⟩
theorem Evo.trans {W W1 W2 : Wd} {H H1 H2 : Hp} (a : Evo W H W1 H1) (b : Evo W1 H1 W2 H2) : Evo W H W2 H2:=by
 refine ⟨a.le.trans b.le,fun p o h z n=>?_,fun p o h z n=>?_,fun c f h=>b.asn c f (a.asn c f h),fun c f q h o=>a.hold c f q h (b.hold c f q (a.asn c f h) o),fun p h=>a.dom p (b.dom p h),fun p o r r' hp e1 e2=>?_,fun p o z n=>b.zown p o (a.le.Z p o z) (a.zown p o z n)⟩
 ·obtain ⟨h1,n1⟩:=a.stay p o h z n
  exact b.stay p o h1 (a.thaw p o h z n) n1
 ·obtain ⟨h1,n1⟩:=a.stay p o h z n
  exact b.thaw p o h1 (a.thaw p o h z n) n1
 ·cases q : H1 p with
  | none=>rw [a.dom p q] at hp; cases hp
  | some o1 =>
   cases q1 : W1.own p with
   | some r1 =>
    have e3:=a.zih p o r r1 hp e1 q1
    subst e3
    exact b.zih p o1 r1 r' q q1 e2
   | none =>
    cases q2 : W1.Z p with
    | none =>
     have:=(b.stay p o1 q q2 q1).2
     rw [e2] at this; cases this
    | some u =>
     have:=b.zown p u q2 q1
     rw [e2] at this; cases this
def Ext (H H' : Hp) : Prop:=∀ p o,H p=some o→H' p=some o
theorem Ext.refl (H : Hp) : Ext H H:=fun _ _ h=>h
theorem Ext.trans {H H1 H2 : Hp} (a : Ext H H1) (b : Ext H1 H2) : Ext H H2:=fun p o h=>b p o (a p o h)
theorem Ext.upd {H : Hp} {p : Addr} {o : HO} (h : H p=none) : Ext H (upd H p o):=fun q u e=>by
 rw [upd_ne (ne_of_none e h)]
 exact e
theorem Ext.dom {H H' : Hp} (e : Ext H H') : ∀ p,H' p=none→H p=none:=fun p h=>by
 cases q : H p with
 | none=>rfl
 | some o=>rw [e p o q] at h; cases h
theorem Evo.ext {W : Wd} {H H' : Hp} (e : Ext H H') : Evo W H W H':=⟨Wle.refl W,fun p o h _ n=>⟨e p o h,n⟩,fun _ _ _ h _=>h,fun _ _ h=>h,fun _ _ _ _ h=>h,e.dom,fun _ _ r r' _ a b=>by rw [a] at b; cases b; rfl,fun _ _ _ n=>n⟩
section
variable {G : Glb} {W : Wd} {H H' : Hp} {N : List Str} {ec : Ec} {fr : Fr} {σ : L2.St} {h : MH}
theorem Cur.ext (e : Ext H H') {v : Val} {p : Addr} (c : Cur G W H v p) : Cur G W H' v p:=by
 cases v with
 | lst l=>obtain ⟨vs,a,b⟩:=c; exact ⟨vs,e _ _ a,b⟩
 | dct l=>obtain ⟨E,a,b⟩:=c; exact ⟨E,e _ _ a,b⟩
 | _=>exact c
theorem Paired.imp2 {α β : Type} {F F' : α→β→Prop} (f : ∀ a b,F a b→F' a b) : ∀ {l : List α} {m : List β},Paired F l m→Paired F' l m
 | _,_,.nil=>.nil
 | _,_,.cons r t=>.cons (f _ _ r) (Paired.imp2 f t)
theorem Cur2.ext (e : Ext H H') {i : Nat} {v : Val} {p : Addr} (c : Cur2 G W H i v p) : Cur2 G W H' i v p:=by
 cases v with
 | lst l=>obtain ⟨qs,a,b,d⟩:=c; exact ⟨qs,e _ _ a,b,Paired.imp2 (fun _ _ z=>⟨z.1,z.2.ext e⟩) d⟩
 | _=>exact c
theorem zbO.ext (e : Ext H H') {i : Nat} {s : Slot} (c : zbO G W H N ec σ i s) : zbO G W H' N ec σ i s:=by
 cases s with
 | own v=>obtain ⟨p,a,b,d⟩:=c; exact ⟨p,a,b,d.ext e⟩
 | own2 v=>obtain ⟨p,a,b,d⟩:=c; exact ⟨p,a,b,d.ext e⟩
 | _=>exact c
theorem FldR.ext (e : Ext H H') {a f : Nat} {vs : List (Str × V)} {s : Slot} (c : FldR G W H a f vs s) : FldR G W H' a f vs s:=by
 cases s with
 | own v=>obtain ⟨p,a,b,d⟩:=c; exact ⟨p,a,b,d.ext e⟩
 | _=>exact c
theorem ObR.ext (e : Ext H H') {a : Nat} {p : Addr} {o : Ob} (c : ObR G W H a p o) : ObR G W H' a p o:=by
 cases o with
 | inst c' fs=>obtain ⟨C,dx,vs,h1,h2,h3,h4⟩:=c; exact ⟨C,dx,vs,h1,e _ _ h2,fun f s z=>(h3 f s z).ext e,h4⟩
 | hl l=>exact Cur.ext (v:=.lst l) e c
 | hd l=>exact Cur.ext (v:=.dct l) e c
theorem HpR.ext (e : Ext H H') (c : HpR G W H fr σ h) : HpR G W H' fr σ h:=by
 refine ⟨fun p o z=>⟨Rd.le e (c.zin p o z).rd,(c.zin p o z).no,(c.zin p o z).nf,fun vs q f=>e _ _ ((c.zin p o z).ls vs q f)⟩,fun p od z=>let ⟨u,h1,h2⟩:=c.fin p od z; ⟨u,h1,e _ _ h2⟩,fun p r z=>?_,c.uni,c.oas,c.asn,c.lι,c.lk,fun a o z=>?_,fun k v z=>?_,c.x.keep (Wle.refl W) (fun _ z=>z) (fun P o=>?_) rfl (fun a o z=>by rw [z]; exact e _ _ z) (fun i _ z=>⟨i,z⟩)⟩
 ·cases q : H p with
  | none=>exact absurd q (c.oin p r z)
  | some o=>rw [e _ _ q]; exact nofun
 ·obtain ⟨p,h1,h2,h3⟩:=c.objs a o z
  exact ⟨p,h1,h2,h3.ext e⟩
 ·rcases c.cells k v z with ⟨i,x,a⟩ | ⟨a,b,x,u,h1,h2,h3⟩
  ·exact .inl ⟨i,x,a⟩
  ·exact .inr ⟨a,b,x,u,h1,e _ _ h2,h3⟩
 ·cases q : H P with
  | none=>exact absurd q (c.oin P _ o)
  | some u=>exact e _ _ q
theorem R.ext (e : Ext H H') (c : R G W H N ec fr σ h) : R G W H' N ec fr σ h:=⟨⟨c.f.len,fun i s z=>(c.f.at_ i s z).ext e,c.f.inj⟩,c.h.ext e,c.kk⟩
end

structure Wup (W W' : Wd) : Prop where
 le : Wle W W'
 own : W'.own=W.own
 ι : W'.ι=W.ι
 κ : W'.κ=W.κ
 asn : W'.asn=W.asn
 ct : W'.ct=W.ct
section
variable {G : Glb} {W W' : Wd} {H : Hp} {N : List Str} {ec : Ec} {fr : Fr} {σ : L2.St} {h : MH}
theorem Cur.up (u : Wle W W') {v : Val} {p : Addr} (c : Cur G W H v p) : Cur G W' H v p:=by
 cases v with
 | lst l=>obtain ⟨vs,a,b⟩:=c; exact ⟨vs,a,b.le u⟩
 | dct l=>obtain ⟨E,a,b⟩:=c; exact ⟨E,a,b.le u⟩
 | _=>exact c
theorem Cur2.up (u : Wup W W') {i : Nat} {v : Val} {p : Addr} (c : Cur2 G W H i v p) : Cur2 G W' H i v p:=by
 cases v with
 | lst l=>obtain ⟨qs,a,b,d⟩:=c; exact ⟨qs,a,b,Paired.imp2 (fun _ _ z=>⟨by rw [u.own]; exact z.1,z.2.up u.le⟩) d⟩
 | _=>exact c
theorem zbO.up (u : Wup W W') {i : Nat} {s : Slot} (c : zbO G W H N ec σ i s) : zbO G W' H N ec σ i s:=by
 cases s with
 | un=>trivial
 | val v=>obtain ⟨x,a,b⟩:=c; exact ⟨x,a,b.le u.le⟩
 | own v=>obtain ⟨p,a,b,d⟩:=c; exact ⟨p,a,by rw [u.own]; exact b,d.up u.le⟩
 | own2 v=>obtain ⟨p,a,b,d⟩:=c; exact ⟨p,a,by rw [u.own]; exact b,d.up u⟩
 | cell c'=>exact c
 | exc c' v=>exact let ⟨x,a,b⟩:=c; ⟨x,a,b.le u.le⟩
theorem FldR.up (u : Wup W W') {a f : Nat} {vs : List (Str × V)} {s : Slot} (c : FldR G W H a f vs s) : FldR G W' H a f vs s:=by
 cases s with
 | val v=>obtain ⟨x,a,b⟩:=c; exact ⟨x,a,b.le u.le⟩
 | own v=>obtain ⟨p,a,b,d⟩:=c; exact ⟨p,a,by rw [u.own]; exact b,d.up u.le⟩
 | _=>exact c
theorem ObR.up (u : Wup W W') {a : Nat} {p : Addr} {o : Ob} (c : ObR G W H a p o) : ObR G W' H a p o:=by
 cases o with
 | inst c' fs=>obtain ⟨C,dx,vs,h1,h2,h3,h4⟩:=c; exact ⟨C,dx,vs,h1,h2,fun f s z=>(h3 f s z).up u,h4⟩
 | hl l=>exact Cur.up (v:=.lst l) u.le c
 | hd l=>exact Cur.up (v:=.dct l) u.le c
theorem R.up (u : Wup W W') (z : ∀ p o,W'.Z p=some o→ZinR H W' p o) (zf : ∀ p od,W'.F p=some od→∃ u,W'.Z p=some u∧H p=some (.frz od u)) (c : R G W H N ec fr σ h) : R G W' H N ec fr σ h:=by
 refine ⟨⟨c.f.len,fun i s z=>(c.f.at_ i s z).up u,c.f.inj⟩,⟨z,zf,fun p r q=>c.h.oin p r (by rw [← u.own]; exact q),fun p q a f h1 h2=>c.h.uni p q a f (by rw [← u.own]; exact h1) (by rw [← u.own]; exact h2),fun q a f h1=>by rw [u.asn]; exact c.h.oas q a f (by rw [← u.own]; exact h1),fun a f=>by rw [u.asn]; exact c.h.asn a f,by rw [u.ι]; exact c.h.lι,⟨by rw [u.κ]; exact c.h.lκ,fun d v e n=>c.h.lk.2 d v e ((u.le.dd d (by rw [c.h.lκ]; exact (List.getElem?_eq_some_iff.mp e).1)).mp n)⟩,fun a o z=>?_,fun k v z=>?_,c.h.x.same u.le (fun P z=>by rw [u.own]; exact z) u.κ u.ct⟩,zpx u.le c.kk⟩
 ·obtain ⟨p,h1,h2,h3⟩:=c.h.objs a o z
  exact ⟨p,u.le.ι _ _ h1,by rw [u.own]; exact h2,h3.up u⟩
 ·rcases c.h.cells k v z with ⟨i,x,a,b,d⟩ | ⟨a,b,x,u',h1,h2,h3,h4⟩
  ·exact .inl ⟨i,x,a,b,d.le u.le⟩
  ·exact .inr ⟨a,b,x,u',u.le.κ _ _ h1,h2,h3,h4.le u.le⟩
def zd5 (G : Glb) (H0 : Hp) (W : Wd) (H : Hp) (v : Val) (x : V) : Prop:=∃ p,x = .ref p∧H0 p=none∧W.Z p=none∧W.own p=none∧Cur G W H v p
def ResR (G : Glb) (f : Bool) (H0 : Hp) (W : Wd) (H : Hp) (v : Val) (x : V) : Prop:=match f,v with
 | true,.lst l=>zd5 G H0 W H (.lst l) x
 | true,.dct l=>zd5 G H0 W H (.dct l) x
 | _,v=>Rp G W v x
def Wd.fix (W : Wd) (H : Hp) (p : Addr) : Wd:={ W with Z:=fun b=>if b=p then H p else W.Z b }
theorem zdE {p : Addr} (n : W.Z p=none) : Wup W (W.fix H p):=by
 refine ⟨⟨fun q o z=>?_,fun _ _ h=>h,fun _ _ h=>h,fun _ _ h=>h,fun _ _ _ h=>h,fun _ _=>Iff.rfl,fun _ _ h=>h⟩,rfl,rfl,rfl,rfl,rfl⟩
 show (if q=p then H p else W.Z q)=some o
 rw [if_neg (fun e=>by rw [e,n] at z; cases z)]
 exact z
theorem zo0 {p : Addr} {o : HO} (e : H p=some o) : (W.fix H p).Z p=some o:=by
 show (if p=p then H p else W.Z p)=some o
 rw [if_pos rfl]; exact e
theorem zgu {W0 : Wd} {H0 : Hp} {p : Addr} (n : W.Z p=none) (h0 : H0 p=none) (ev : Evo W0 H0 W H) : Evo W0 H0 (W.fix H p) H:=by
 refine ⟨ev.le.trans (zdE n).le,ev.stay,fun q o z a b=>?_,ev.asn,ev.hold,ev.dom,ev.zih,ev.zown⟩
 show (if q=p then H p else W.Z q)=none
 rw [if_neg (fun e=>by rw [e,h0] at z; cases z)]
 exact ev.thaw q o z a b
theorem zrk {p : Addr} (n : W.Z p=none) (o : W.own p=none) (nf : ∀ u od v,H p=some u→u≠.frz od v) (c : R G W H N ec fr σ h) : R G (W.fix H p) H N ec fr σ h:=by
 refine R.up (zdE n) (fun q u z=>?_) (fun q od e=>let ⟨u,h1,h2⟩:=c.h.fin q od e; ⟨u,(zdE n).le.Z _ _ h1,h2⟩) c
 have z : (if q=p then H p else W.Z q)=some u:=z
 by_cases e : q=p
 ·rw [if_pos e] at z
  rw [e]
  exact ⟨.inl z,o,fun od v=>nf u od v z,fun _ _ _=>z⟩
 ·rw [if_neg e] at z
  exact ⟨(c.h.zin q u z).rd,(c.h.zin q u z).no,(c.h.zin q u z).nf,(c.h.zin q u z).ls⟩
theorem Cur.nf {v : Val} {p : Addr} (c : Cur G W H v p) : ∀ u od w,H p=some u→u≠.frz od w:=by
 intro u od w hu
 cases v with
 | lst l=>obtain ⟨vs,a,b⟩:=c; rw [a] at hu; cases hu; exact nofun
 | dct l=>obtain ⟨vs,a,b⟩:=c; rw [a] at hu; cases hu; exact b.nfrz od w
 | _=>exact c.elim
theorem zd5.rp {H0 : Hp} {v : Val} {x : V} (r : zd5 G H0 W H v x) (c : R G W H N ec fr σ h) : ∃ W',Wup W W'∧R G W' H N ec fr σ h∧Rp G W' v x∧∀ W0 : Wd,Evo W0 H0 W H→Evo W0 H0 W' H:=by
 obtain ⟨p,rfl,h0,n,o,cu⟩:=r
 have nf:=cu.nf
 refine ⟨W.fix H p,zdE n,zrk n o nf c,?_,fun W0 ev=>zgu n h0 ev⟩
 cases v with
 | lst l =>
  obtain ⟨vs,a,b⟩:=cu
  exact .lst (.inl (.inl (zo0 a))) (b.le (zdE n).le)
 | dct l =>
  obtain ⟨E,a,b⟩:=cu
  exact .dct (.inl (zo0 a)) (b.le (zdE n).le)
 | _=>exact cu.elim
theorem Wup.refl (W : Wd) : Wup W W:=⟨Wle.refl W,rfl,rfl,rfl,rfl,rfl⟩
theorem ResR.rp {f : Bool} {H0 : Hp} {v : Val} {x : V} (r : ResR G f H0 W H v x) (c : R G W H N ec fr σ h) : ∃ W',Wup W W'∧R G W' H N ec fr σ h∧Rp G W' v x∧∀ W0 : Wd,Evo W0 H0 W H→Evo W0 H0 W' H:=by
 cases f with
 | false=>exact ⟨W,Wup.refl W,c,r,fun _ e=>e⟩
 | true =>
  cases v with
  | lst l=>exact zd5.rp r c
  | dct l=>exact zd5.rp r c
  | _=>exact ⟨W,Wup.refl W,c,r,fun _ e=>e⟩
end

def After {α β : Type} (G : Glb) (N : List Str) (ec : Ec) (Wx : WX) (ExR : Wd→Hp→Nat→Option Val→Value→Option Addr→Prop) (σ : L2.St) (Rel : Wd→Hp→α→β→Prop) (W : Wd) (H : Hp) (r : Res α) (Q : β→Hp→Prop) : Prop :=
 match r with
 | .ok a fr' h'=>∀ W' b H',Evo W H W' H'→R G W' H' N ec fr' σ h'→Rel W' H' a b→Q b H'
 | .exn c e fr' h'=>∀ W' cls d H',Evo W H W' H'→R G W' H' N ec fr' σ h'→ExR W' H' c e cls d→Wx cls d σ H'
 | .stuck=>False
section
variable {α β γ δ : Type} {G : Glb} {N : List Str} {ec : Ec} {Wx : WX} {ExR : Wd→Hp→Nat→Option Val→Value→Option Addr→Prop} {σ : L2.St} {Rel : Wd→Hp→α→β→Prop} {Rel2 : Wd→Hp→γ→δ→Prop} {W W1 : Wd} {H H1 : Hp}
theorem After.evo {r : Res α} {Q : β→Hp→Prop} (a : After G N ec Wx ExR σ Rel W H r Q) (e : Evo W H W1 H1) : After G N ec Wx ExR σ Rel W1 H1 r Q:=by
 cases r with
 | ok v fr' h'=>exact fun W' b H' ev=>a W' b H' (e.trans ev)
 | exn c x fr' h'=>exact fun W' cls d H' ev=>a W' cls d H' (e.trans ev)
 | stuck=>exact a
theorem After.bnd {m : Fr→MH→Res α} {f : α→Fr→MH→Res γ} {fr : Fr} {h : MH} {Q : δ→Hp→Prop} (a : After G N ec Wx ExR σ Rel2 W H (Fx.bnd m f fr h) Q) :
  After G N ec Wx ExR σ Rel W H (m fr h) (fun b H1=>∃ W1 v fr1 h1,Evo W H W1 H1∧R G W1 H1 N ec fr1 σ h1∧Rel W1 H1 v b∧m fr h = .ok v fr1 h1∧After G N ec Wx ExR σ Rel2 W1 H1 (f v fr1 h1) Q):=by
 unfold Fx.bnd at a
 cases q : m fr h with
 | ok v fr1 h1 =>
  rw [q] at a
  exact fun W1 b H1 ev r1 rl=>⟨W1,v,fr1,h1,ev,r1,rl,rfl,After.evo (W:=W) (H:=H) a ev⟩
 | exn c x fr1 h1 =>
  rw [q] at a
  exact a
 | stuck =>
  rw [q] at a
  exact a.elim
end
end Fx
end
section
set_option maxHeartbeats 4000000
namespace Fx
open PySem PySem.Spec PyProof.Rows L2
abbrev St:=L2.St
structure Tb where
 fnA : Nat→Option Addr
 clsA : Nat→Option Addr
 fldN : Nat→Str
 lamO : Nat→Option (Addr→List Addr→Addr→HO)
 lamQ : Nat→Str
 tab : Addr→Option (Nat→Nat→Str)
 ExR : Wd→Hp→Nat→Option Val→Value→Option Addr→Prop
 cm : Cm
 exV : Nat→Option Addr:=fun _=>none
abbrev gl (X : Cx) (T : Tb) : Glb:=⟨X.prog,X.w,X.K,T.fnA,T.clsA,T.fldN,T.lamO,T.lamQ,T.tab,T.exV⟩
abbrev RX (X : Cx) (T : Tb) (W : Wd) (H : Hp) (fr : Fr) (σ : St) (h : MH) : Prop:=R (gl X T) W H X.N T.cm fr σ h
abbrev AfX {α β : Type} (X : Cx) (T : Tb) (Wx : WX) (σ : St) (Rel : Wd→Hp→α→β→Prop) (W : Wd) (H : Hp) (r : Res α) (Q : β→Hp→Prop) : Prop :=
 After (gl X T) X.N T.cm Wx T.ExR σ Rel W H r Q
def tE (X : Cx) (T : Tb) (Wx : WX) (f : Bool) (m : Fr→MH→Res Val) : TE:=fun σ H Q =>
 ∃ W fr h,RX X T W H fr σ h∧AfX X T Wx σ (ResR (gl X T) f H) W H (m fr h) Q
def tT (X : Cx) (T : Tb) (Wx : WX) (m : Fr→MH→Res Bool) : TT:=fun σ H Q =>
 ∃ W fr h,RX X T W H fr σ h∧AfX X T Wx σ (fun _ _ a b=>a=b) W H (m fr h) Q
def OvR (X : Cx) (T : Tb) (σ : St) (W : Wd) (H : Hp) : OV→V→Prop
 | .v v,x=>Rp (gl X T) W v x
 | .sl i,x=>σ[i]? = some (some x)
 | .fl a f,x=>∃ q,x = .ref q∧W.asn a f∧∀ p,W.own p=some (.fld a f)→p=q
def tO (X : Cx) (T : Tb) (Wx : WX) (m : Fr→MH→Res OV) : TE:=fun σ H Q =>
 ∃ W fr h,RX X T W H fr σ h∧AfX X T Wx σ (OvR X T σ) W H (m fr h) Q
section
variable {X : Cx} {T : Tb} {Wx : WX} {W W1 : Wd} {H H1 : Hp} {σ : St} {fr fr1 : Fr} {h h1 : MH} {e a b : Expr} {pos : Pos} {t t' : TE}

theorem PE.wk (p : PE X e t) (w : ∀ σ H Q,t' σ H Q→t σ H Q) : PE X e t':=⟨fun pins s σ H Q I q=>p.run pins s σ H Q I (w σ H Q q)⟩
theorem PT.wk {t t' : TT} (p : PT X e t) (w : ∀ σ H Q,t' σ H Q→t σ H Q) : PT X e t':=⟨fun pins s σ H Q I q=>p.run pins s σ H Q I (w σ H Q q)⟩
theorem PA.wk {es : List Expr} {t t' : TA} (p : PA X es t) (w : ∀ σ H Q,t' σ H Q→t σ H Q) : PA X es t':=⟨fun pos pins s σ H Q I q=>p.run pos pins s σ H Q I (w σ H Q q)⟩
theorem tE.un {f : Bool} {m : Fr→MH→Res Val} (q : tE X T Wx false m σ H Q) : tE X T Wx f m σ H Q:=by
 obtain ⟨W,fr,h,r,a⟩:=q
 refine ⟨W,fr,h,r,?_⟩
 cases e : m fr h with
 | ok v fr' h' =>
  rw [e] at a
  intro W' x H' ev r' rr
  obtain ⟨W2,_,r2,rp,ev2⟩:=ResR.rp rr r'
  exact a W2 x H' (ev2 _ ev) r2 rp
 | exn c y fr' h' =>
  rw [e] at a
  exact a
 | stuck =>
  rw [e] at a
  exact a.elim
theorem PE.un {f : Bool} {m : Fr→MH→Res Val} (p : PE X e (tE X T Wx f m)) : PE X e (tE X T Wx false m):=PE.wk p fun _ _ _ q=>tE.un q
theorem tE.now {f : Bool} {v : Val} {Q : VK} (r : RX X T W H fr σ h) (q : AfX X T Wx σ (ResR (gl X T) f H) W H (.ok v fr1 h1) Q) {W' : Wd} {x : V} {H' : Hp} (ev : Evo W H W' H') (r' : RX X T W' H' fr1 σ h1) (rr : ResR (gl X T) f H W' H' v x) : Q x H':=q W' x H' ev r' rr
theorem za3 {i : Nat} {x : Str} (hN : X.N[i]? = some x) (hv : Vis X.env.scope x) (hd : (x == ("__debug__" : Str))=false) (hcd : (x == ("__classdict__" : Str))=false) {TT : Tbl} {C : Callee} :
  PE X (.Name x pos) (tE X T Wx false (ev TT C (.var i))):=by
 refine PE.wk (pe_var hN hv hd hcd) fun σ H Q q=>?_
 obtain ⟨W,fr,h,r,a⟩:=q
 simp only [ev] at a
 cases e : fr[i]? with
 | none=>rw [e] at a; exact a.elim
 | some s =>
  rw [e] at a
  cases s with
  | val v =>
   obtain ⟨y,hy,ry⟩:=r.f.at_ i _ e
   exact ⟨y,hy,a W y H (Evo.refl _ _) r ry⟩
  | _=>exact a.elim
def litE : Val→Option PySem.Const
 | .none=>some .none
 | .bool b=>some (.bool b)
 | .int i=>some (.int i)
 | .str s=>some (.str s)
 | _=>Option.none
theorem zaa {v : Val} {c : PySem.Const} {j : Nat} (hc : litE v=some c) {TT : Tbl} {C : Callee} : PE X (.Constant c j pos) (tE X T Wx false (ev TT C (.lit v))):=by
 have go : ∀ {x : V},PE X (.Constant c j pos) (tC x)→(∀ W,Rp (gl X T) W v x)→PE X (.Constant c j pos) (tE X T Wx false (ev TT C (.lit v))):=fun {x} p rp=>by
  refine PE.wk p fun σ H Q q=>?_
  obtain ⟨W,fr,h,r,a⟩:=q
  simp only [ev,rt] at a
  exact a W x H (Evo.refl _ _) r (by cases v <;> exact rp W)
 cases v with
 | none=>cases hc; exact go pe_non fun _=>.none
 | bool b=>cases hc; exact go pe_bl fun _=>.bool b
 | int i=>cases hc; exact go pe_int fun _=>.int i
 | str s=>cases hc; exact go pe_str fun _=>.str s
 | _=>cases hc
end
end Fx
end
section
set_option maxHeartbeats 4000000
namespace Fx
open PySem PySem.Spec PyProof.Rows L2

structure WH (W : Wd) (H : Hp) : Prop where
 zin : ∀ p o,W.Z p=some o→Rd H p o∧∀ od u,o≠.frz od u
 fin : ∀ p od,W.F p=some od→∃ u,W.Z p=some u∧H p=some (.frz od u)
 oin : ∀ p r,W.own p=some r→H p≠none
 zl : ∀ p vs,W.Z p=some (.lst vs)→W.F p=none→H p=some (.lst vs)
def Lk (G : Glb) (W : Wd) (H : Hp) (v : Val) (x : V) : Prop:=match v with
 | .lst l=>∃ p vs,x = .ref p∧SqL G.K H p vs∧Rps G W l vs
 | .dct l=>∃ p o,x = .ref p∧Rd H p o∧DctR G W p l o
 | v=>Rp G W v x
section
variable {G : Glb} {W : Wd} {H : Hp}
theorem WH.of {N : List Str} {ec : Ec} {fr : Fr} {σ : L2.St} {h : MH} (r : R G W H N ec fr σ h) : WH W H:=⟨fun p o z=>⟨(r.h.zin p o z).rd,(r.h.zin p o z).nf⟩,r.h.fin,r.h.oin,fun p vs z=>(r.h.zin p _ z).ls vs rfl⟩
theorem WH.new (w : WH W H) {p : Addr} (h : H p=none) : W.Z p=none∧W.own p=none:=by
 constructor
 ·cases q : W.Z p with
  | none=>rfl
  | some o =>
   rcases (w.zin p o q).1 with e | ⟨_,e⟩
   ·rw [h] at e; cases e
   ·rw [h] at e; cases e
 ·cases q : W.own p with
  | none=>rfl
  | some o=>exact absurd h (w.oin p o q)
theorem Lk.of (w : WH W H) {v : Val} {x : V} (r : Rp G W v x) : Lk G W H v x:=by
 cases r with
 | lst a b=>exact ⟨_,_,rfl,SqL.le' w.zin a,b⟩
 | dct a b=>exact ⟨_,_,rfl,Rd.le' w.zin a,b⟩
 | none=>exact .none
 | bool b=>exact .bool b
 | int i=>exact .int i
 | str s=>exact .str s
 | tup a b c=>exact .tup a b c
 | ref a=>exact .ref a
 | fn a=>exact .fn a
 | clo a b c d=>exact .clo a b c d
 | exc0 a b=>exact .exc0 a b
 | exc1 a b c d=>exact .exc1 a b c d
theorem Lk.cur {v : Val} {p : Addr} (c : Cur G W H v p) : Lk G W H v (.ref p):=by
 cases v with
 | lst l=>obtain ⟨vs,a,b⟩:=c; exact ⟨p,vs,rfl,.inl (.inl a),b⟩
 | dct l=>obtain ⟨E,a,b⟩:=c; exact ⟨p,E,rfl,.inl a,b⟩
 | _=>exact c.elim
theorem Rp.tupI (w : WH W H) {l : List Val} {bt : Bool} {x : V} (r : Rp G W (.tup bt l) x) : ∃ p vs,x = .ref p∧SqT G.K H p vs∧Rps G W l vs:=by
 cases r with
 | tup a b _=>exact ⟨_,_,rfl,SqT.le' w.zin a,b⟩
theorem Rp.intI {i : Int} {x : V} (r : Rp G W (.int i) x) : x = .int i:=by cases r; rfl
theorem Rp.boolI {i : Bool} {x : V} (r : Rp G W (.bool i) x) : x = .bl i:=by cases r; rfl
theorem Rp.strI {i : Str} {x : V} (r : Rp G W (.str i) x) : x = .str i:=by cases r; rfl
theorem Rp.noneI {x : V} (r : Rp G W .none x) : x = .non:=by cases r; rfl
theorem zhW : line=sizeLine:=by rw [sizeLine_eq] <;> rfl
theorem zfE {l : List Val} {v : Val} (h : zcj l=some v) : v = .lst l∧l.length≤sizeLine:=by
 unfold zcj at h
 split at h
 ·rename_i q
  rw [zhW] at q
  exact ⟨(Option.some.inj h).symm,q⟩
 ·cases h
theorem zmR {l : List Val} {v : Val} (h : zlP l=some v) : v = .tup false l∧l.length≤sizeLine:=by
 unfold zlP at h
 split at h
 ·rename_i q
  rw [zhW] at q
  exact ⟨(Option.some.inj h).symm,q⟩
 ·cases h
end

def P2 (X : Cx) (T : Tb) (p : Prim) : R2:=fun x y H Q=>∃ W a b v,WH W H∧Lk (gl X T) W H a x∧Lk (gl X T) W H b y∧za5 p [a,b]=some v ∧
 ∀ W' z H',Ext H H'→Wup W W'→WH W' H'→(∀ q,H q≠none→W'.Z q=W.Z q)→ResR (gl X T) true H W' H' v z→Q z H'
section
variable {X : Cx} {T : Tb} {W : Wd} {H : Hp}
theorem WH.up {H' : Hp} (w : WH W H) (e : Ext H H') : WH W H':=⟨fun p o z=>⟨Rd.le e (w.zin p o z).1,(w.zin p o z).2⟩,fun p od z=>let ⟨u,h1,h2⟩:=w.fin p od z; ⟨u,h1,e _ _ h2⟩,fun p r z=>by
 cases q : H p with
 | none=>exact absurd q (w.oin p r z)
 | some o=>rw [e _ _ q]; exact nofun,fun p vs z f=>e _ _ (w.zl p vs z f)⟩
theorem zpL {l : List Val} {vs : List V} {p : Addr} (w : WH W H) (h : H p=none) (r : Rps (gl X T) W l vs) : ResR (gl X T) true H W (upd H p (.lst vs)) (.lst l) (.ref p) :=
 ⟨p,rfl,h,(w.new h).1,(w.new h).2,vs,upd_same,r⟩
theorem znx {l : List Val} {vs : List V} {p : Addr} (w : WH W H) (h : H p=none) (r : Rps (gl X T) W l vs) :
  ∃ W',Wup W W'∧WH W' (upd H p (.tup vs))∧(∀ q,H q≠none→W'.Z q=W.Z q)∧Rp (gl X T) W' (.tup false l) (.ref p):=by
 have n:=w.new h
 have u:=zdE (W:=W) (H:=upd H p (.tup vs)) n.1
 refine ⟨W.fix (upd H p (.tup vs)) p,u,⟨fun q o z=>?_,fun q od z=>let ⟨v,h1,h2⟩:=(w.up (Ext.upd h)).fin q od z; ⟨v,u.le.Z _ _ h1,h2⟩,fun q r z=>(w.up (Ext.upd h)).oin q r z,fun q ws z f=>?_⟩,fun q hq=>?_,.tupF (.inl (.inl (zo0 upd_same))) (r.le u.le)⟩
 ·have z : (if q=p then upd H p (.tup vs) p else W.Z q)=some o:=z
  by_cases e : q=p
  ·rw [if_pos e,upd_same] at z; rw [e]; cases z; exact ⟨.inl upd_same,fun _ _=>nofun⟩
  ·rw [if_neg e] at z; exact (w.up (Ext.upd h)).zin q o z
 ·have z : (if q=p then upd H p (.tup vs) p else W.Z q)=some (.lst ws):=z
  by_cases e : q=p
  ·rw [if_pos e,upd_same] at z; cases z
  ·rw [if_neg e] at z; exact (w.up (Ext.upd h)).zl q ws z f
 ·show (if q=p then upd H p (.tup vs) p else W.Z q)=W.Z q
  rw [if_neg (fun e=>hq (by rw [e]; exact h))]
theorem zg0 {W : Wd} {H : Hp} : ∀ q,H q≠none→W.Z q=W.Z q:=fun _ _=>rfl
theorem Rps.nil_iff {G : Glb} {l : List Val} {vs : List V} (r : Rps G W l vs) : l = []↔vs = []:=by
 cases r with
 | nil=>simp
 | cons _ _=>simp
theorem cat_rd : OpR X (binaryOp .Add) (fun x y H Q=>∃ p q vs ws,x = .ref p∧y = .ref q∧SqL X.K H p vs∧SqL X.K H q ws∧vs.length + ws.length≤sizeLine∧∀ r,H r=none→Q (.ref r) (upd H r (.lst (vs ++ ws)))):=by
 intro pins s σ H x y v u Q I rx ry ⟨p,q,vs,ws,e1,e2,h1,h2,hz,k⟩
 subst e1; subst e2
 cases rx
 cases ry
 obtain ⟨its1,r1,⟨⟨c1,d1,t1,sl1⟩,n1,o1,a1,b1,f1⟩,_⟩:=I.list h1
 obtain ⟨its2,r2,⟨⟨c2,d2,t2,sl2⟩,n2,o2,a2,b2,f2⟩,_⟩:=I.list h2
 simp only at a1 b1 f1 a2 b2 f2
 subst a1 b1 f1 a2 b2 f2
 have l1:=r1.length
 have l2:=r2.length
 have hz' : its1.toArray.size + its2.toArray.size≤sizeLine:=by
  simp only [List.size_toArray]; omega
 refine concat_meets ⟨_,o1,rfl⟩ ⟨_,o2,rfl⟩ noFill_list_add seq_list_add PySem.F.slot_list_add PySem.F.entry_list_add (PySem.F.args_list_add_2 _ _)
  (list_addW p q its1.toArray its2.toArray n1 n2 none none sl1 sl2 hz') ⟨o1,o2,?_⟩
 have ea : its1.toArray ++ its2.toArray=(its1 ++ its2).toArray:=by simp
 rw [ea]
 exact ⟨.ref _,_,I.lnew (t':=s.toks) (r1.append r2) (by simp only [List.length_append]; omega),rfl,k _ I.fresh⟩
theorem zfD : OpR X (binaryOp .Add) (P2 X T .add):=by
 intro pins s σ H x y v u Q I rx ry ⟨W,a,b,r,wh,la,lb,hp,k⟩
 cases a with
 | int i =>
  cases b with
  | int j =>
   cases hp
   exact op_add pins s σ H x y v u Q I rx ry ⟨i,j,Rp.intI la,Rp.intI lb,k W _ H (Ext.refl _) (Wup.refl _) wh zg0 (Rp.int _)⟩
  | _=>cases hp
 | tup bt l =>
  cases b with
  | tup bm m =>
   obtain ⟨rfl,hl⟩:=zmR (show zlP (l ++ m)=some r from hp)
   obtain ⟨p,xs,rfl,hx,rl⟩:=Rp.tupI wh la
   obtain ⟨q,ys,rfl,hy,rm⟩:=Rp.tupI wh lb
   have e1:=rl.length
   have e2:=rm.length
   rw [List.length_append] at hl
   have new : ∀ p,H p=none→Q (.ref p) (upd H p (.tup (xs ++ ys))):=fun p hn=>by
    obtain ⟨W',u1,w1,z1,r1⟩:=znx (X:=X) (T:=T) wh hn (rl.append rm)
    exact k W' _ _ (Ext.upd hn) u1 w1 z1 r1
   refine op_catA pins s σ H _ _ v u Q I rx ry ⟨p,q,xs,ys,rfl,rfl,hx,hy,by omega,fun e=>?_,fun _ e=>?_,fun _ _=>new⟩
   ·have e0 : l = []:=rl.nil_iff.mpr e
    subst e0
    exact k W _ H (Ext.refl _) (Wup.refl _) wh zg0 (Rp.unflag lb)
   ·have e0 : m = []:=rm.nil_iff.mpr e
    subst e0
    rw [List.append_nil] at k
    exact k W _ H (Ext.refl _) (Wup.refl _) wh zg0 (Rp.unflag la)
  | _=>cases hp
 | lst l =>
  cases b with
  | lst m =>
   obtain ⟨rfl,hl⟩:=zfE (show zcj (l ++ m)=some r from hp)
   obtain ⟨p,xs,rfl,hx,rl⟩:=la
   obtain ⟨q,ys,rfl,hy,rm⟩:=lb
   have e1:=rl.length
   have e2:=rm.length
   rw [List.length_append] at hl
   exact cat_rd pins s σ H _ _ v u Q I rx ry ⟨p,q,xs,ys,rfl,rfl,hx,hy,by omega,fun r hn=>k W _ _ (Ext.upd hn) (Wup.refl _) (wh.up (Ext.upd hn)) zg0 (zpL wh hn (rl.append rm))⟩
  | _=>cases hp
 | _=>cases b <;> cases hp
theorem zcO {f : Value→Value→Sem Value} {p : Prim} {C : Int→Int→Prop} {g : Int→Int→V} {g' : Int→Int→Val} (o : OpR X f (rI C g)) (hg : ∀ i j W,Rp (gl X T) W (g' i j) (g i j)) (hf : ∀ i j,∃ l,g' i j = .int l∨∃ b,g' i j = .bool b)
  (h1 : ∀ i j v,za5 p [.int i,.int j]=some v→C i j∧v=g' i j) (h2 : ∀ a b v,za5 p [a,b]=some v→(∃ i j,a = .int i∧b = .int j)∨OpR X f (P2 X T p)) : OpR X f (P2 X T p):=by
 intro pins s σ H x y v u Q I rx ry q
 obtain ⟨W,a,b,r,wh,la,lb,hp,k⟩:=id q
 rcases h2 a b r hp with ⟨i,j,rfl,rfl⟩ | w
 ·obtain ⟨c,rfl⟩:=h1 i j r hp
  refine o pins s σ H x y v u Q I rx ry ⟨i,j,Rp.intI la,Rp.intI lb,c,k W _ H (Ext.refl _) (Wup.refl _) wh zg0 ?_⟩
  obtain ⟨l,e | ⟨b,e⟩⟩:=hf i j
  ·have z:=hg i j W
   rw [e] at z ⊢
   exact z
  ·have z:=hg i j W
   rw [e] at z ⊢
   exact z
 ·exact w pins s σ H x y v u Q I rx ry q
theorem ofI0 {f : Value→Value→Sem Value} {g : Int→Int→V} (o : OpR X f (rI0 g)) : OpR X f (rI (fun _ _=>True) g):=fun pins s σ H x y v u Q I rx ry ⟨i,j,e1,e2,_,q⟩=>o pins s σ H x y v u Q I rx ry ⟨i,j,e1,e2,q⟩
theorem prim_sub : OpR X (binaryOp .Sub) (P2 X T .sub):=zcO (g':=fun i j=>.int (i - j)) (ofI0 op_sub) (fun _ _ _=>.int _) (fun i j=>⟨_,.inl rfl⟩) (fun i j v h=>by cases h; exact ⟨trivial,rfl⟩)
 fun a b v h=>by cases a <;> first | (cases b <;> first | exact .inl ⟨_,_,rfl,rfl⟩ | cases h) | cases h
theorem zjz : OpR X (binaryOp .Mod) (P2 X T .mod):=zcO (g':=fun i j=>.int (i % j)) op_mod (fun _ _ _=>.int _) (fun i j=>⟨_,.inl rfl⟩) (fun i j v h=>by
  have h : (if 0 < j then some (Val.int (i % j)) else Option.none)=some v:=h
  by_cases q : 0 < j
  ·rw [if_pos q] at h; cases h; exact ⟨q,rfl⟩
  ·rw [if_neg q] at h; cases h)
 fun a b v h=>by cases a <;> first | (cases b <;> first | exact .inl ⟨_,_,rfl,rfl⟩ | cases h) | cases h
theorem zp0 : OpR X (binaryOp .FloorDiv) (P2 X T .fdiv):=zcO (g':=fun i j=>.int (i / j)) op_fdiv (fun _ _ _=>.int _) (fun i j=>⟨_,.inl rfl⟩) (fun i j v h=>by
  have h : (if 0 < j∧j < 1073741824 then some (Val.int (i / j)) else Option.none)=some v:=h
  by_cases q : 0 < j∧j < 1073741824
  ·rw [if_pos q] at h; cases h; exact ⟨q,rfl⟩
  ·rw [if_neg q] at h; cases h)
 fun a b v h=>by cases a <;> first | (cases b <;> first | exact .inl ⟨_,_,rfl,rfl⟩ | cases h) | cases h
theorem prim_pow : OpR X (binaryOp .Pow) (P2 X T .pow):=zcO (g':=fun i j=>.int (i ^ j.toNat)) op_pow (fun _ _ _=>.int _) (fun i j=>⟨_,.inl rfl⟩) (fun i j v h=>by
  have h : (if 0≤j∧j≤1000000∧i.natAbs < 2 ^ 64 then some (Val.int (i ^ j.toNat)) else Option.none)=some v:=h
  by_cases q : 0≤j∧j≤1000000∧i.natAbs < 2 ^ 64
  ·rw [if_pos q] at h; cases h; exact ⟨q,rfl⟩
  ·rw [if_neg q] at h; cases h)
 fun a b v h=>by cases a <;> first | (cases b <;> first | exact .inl ⟨_,_,rfl,rfl⟩ | cases h) | cases h
theorem zoM {i : Int} (h : small i=true) : -(2 ^ 64) < i∧i < 2 ^ 64:=of_decide_eq_true h
theorem znc : OpR X (binaryOp .Mult) (P2 X T .mul):=zcO (g':=fun i j=>.int (i * j)) op_mul (fun _ _ _=>.int _) (fun i j=>⟨_,.inl rfl⟩) (fun i j v h=>by
  have h : (if (small i || small j)=true then some (Val.int (i * j)) else Option.none)=some v:=h
  by_cases q : (small i || small j)=true
  ·rw [if_pos q] at h; cases h
   refine ⟨?_,rfl⟩
   rcases (Bool.or_eq_true _ _).mp q with q | q
   ·exact .inl (zoM q)
   ·exact .inr (zoM q)
  ·rw [if_neg q] at h; cases h)
 fun a b v h=>by cases a <;> first | (cases b <;> first | exact .inl ⟨_,_,rfl,rfl⟩ | cases h) | cases h
theorem prim_lt : OpR X (compareOp .Lt) (P2 X T .lt):=zcO (g':=fun i j=>.bool (decide (i < j))) (ofI0 op_lt) (fun _ _ _=>.bool _) (fun i j=>⟨0,.inr ⟨_,rfl⟩⟩) (fun i j v h=>by cases h; exact ⟨trivial,rfl⟩)
 fun a b v h=>by cases a <;> first | (cases b <;> first | exact .inl ⟨_,_,rfl,rfl⟩ | cases h) | cases h
theorem prim_gt : OpR X (compareOp .Gt) (P2 X T .gt):=zcO (g':=fun i j=>.bool (decide (j < i))) (ofI0 op_gt) (fun _ _ _=>.bool _) (fun i j=>⟨0,.inr ⟨_,rfl⟩⟩) (fun i j v h=>by cases h; exact ⟨trivial,rfl⟩)
 fun a b v h=>by cases a <;> first | (cases b <;> first | exact .inl ⟨_,_,rfl,rfl⟩ | cases h) | cases h
theorem prim_ge : OpR X (compareOp .GtE) (P2 X T .ge):=zcO (g':=fun i j=>.bool (decide (j≤i))) (ofI0 op_ge) (fun _ _ _=>.bool _) (fun i j=>⟨0,.inr ⟨_,rfl⟩⟩) (fun i j v h=>by cases h; exact ⟨trivial,rfl⟩)
 fun a b v h=>by cases a <;> first | (cases b <;> first | exact .inl ⟨_,_,rfl,rfl⟩ | cases h) | cases h
end
end Fx
end
section
set_option maxHeartbeats 4000000
namespace Fx
open PySem PySem.Spec PyProof.Rows L2 PySem.SeqAt
section
variable {P : Program} {w : World} {h : Heap} {a : Addr}
theorem dict0 (d : h.DictOf (mixKind P w) a ([] : List (Key × Value))) (P' : Program) (w' : World) : h.DictOf (mixKind P' w') a ([] : List (Key × Value)):=by
 obtain ⟨o,es,ep,e1,e2,e3,e4,e5,e6⟩:=d
 have z : es.toList = []:=by cases q : es.toList with
  | nil=>rfl
  | cons x y=>rw [q] at e5; cases e5
 have z : es = #[]:=by simpa using z
 subst z
 exact ⟨o,#[],ep,e1,e2,e3,fun e m=>by simp at m,.nil,List.nodup_nil⟩
end
section
variable {A : Around} {s : Shared} {a b : Addr}
theorem rc0 (ha : (a == sysModules)=false) (hb : (b == sysModules)=false) (da : ∀ P w,s.heap.DictOf (mixKind P w) a ([] : List (Key × Value))) (db : ∀ P w,s.heap.DictOf (mixKind P w) b ([] : List (Key × Value))) (hu : A.units < cLine) : RcAt A s (.ref a) (.ref b) true∧RcNeAt A s (.ref a) (.ref b) false :=
 ⟨fun P w E Q q=>PySem.W.keq_eq (knd:=mixKind P w) (r:=true) ha hb (da P w) (db P w) hu (fun _=>.nil) q,
 fun P w E Q q=>PySem.W.keq_ne (knd:=mixKind P w) (r:=true) ha hb (da P w) (db P w) hu (fun _=>.nil) q⟩
end
theorem dct0I {G : Glb} {W : Wd} {p : Addr} {o : HO} (d : DctR G W p [] o) : o = .dK []:=by
 cases d with
 | flat e=>cases e; rfl
 | nest n e=>cases e; exact absurd rfl n
section
variable {X : Cx} {T : Tb} {W : Wd} {H : Hp} {pins : List (Addr × Obj)} {σ : St} {s : Shared}
theorem d0_of (I : Inv X pins σ H s) {p : Addr} (r : Rd H p (.dK [])) : (p == sysModules)=false∧∀ P w,s.heap.DictOf (mixKind P w) p ([] : List (Key × Value)):=by
 obtain ⟨_,y,v,rv,d⟩:=(show ObjOk X.prog X.w H s.heap p (.dK []) from rd_of I.hok r)
 have z:=rv.length
 cases v with
 | nil=>exact ⟨y,dict0 d⟩
 | cons _ _=>cases z
theorem allt (n : Nat) : ((List.range n).all fun _=>true)=true:=by
 rw [List.all_eq_true]; intros; rfl
theorem slf_cons {n : Nat} {a b : Val} {l m : List Val} (h : zhD n (a :: l) (b :: m)=true) : slfV n a b=true∧zhD n l m=true:=by
 simpa only [zhD,Bool.and_eq_true] using h
theorem zjV : ∀ {n : Nat} {l m : List Val},zhD n l m=true→l.length=m.length
 | n,[],m,h=>by
  cases m with
  | nil=>rfl
  | cons b m=>simp [zhD] at h
 | n,a :: l,m,h=>by
  cases m with
  | nil=>simp [zhD] at h
  | cons b m=>simp [zjV (slf_cons h).2]
def SlfC (n : Nat) (a b : Val) : Prop:=(a = .none∧b = .none)∨(∃ i,a = .bool i∧b = .bool i)∨(∃ i,a = .int i∧b = .int i)∨(∃ i,a = .str i∧b = .str i)∨(a = .dct []∧b = .dct []) ∨
 (∃ k s t l m,n=k + 1∧a = .tup s l∧b = .tup t m∧zhD k l m=true)∨(∃ k l m,n=k + 1∧a = .lst l∧b = .lst m∧zhD k l m=true)
theorem slf_c {n : Nat} {a b : Val} (h : slfV n a b=true) : SlfC n a b:=by
 unfold SlfC
 cases a with
 | none=>cases b <;> first | exact .inl ⟨rfl,rfl⟩ | (simp [slfV] at h; done)
 | bool i =>
  cases b with
  | bool j=>simp [slfV] at h; subst h; exact .inr (.inl ⟨_,rfl,rfl⟩)
  | _=>simp [slfV] at h
 | int i =>
  cases b with
  | int j=>simp [slfV] at h; subst h; exact .inr (.inr (.inl ⟨_,rfl,rfl⟩))
  | _=>simp [slfV] at h
 | str i =>
  cases b with
  | str j=>simp [slfV] at h; subst h; exact .inr (.inr (.inr (.inl ⟨_,rfl,rfl⟩)))
  | _=>simp [slfV] at h
 | dct l =>
  cases b with
  | dct m =>
   cases l with
   | nil =>
    cases m with
    | nil=>exact .inr (.inr (.inr (.inr (.inl ⟨rfl,rfl⟩))))
    | cons _ _=>simp [slfV] at h
   | cons _ _=>simp [slfV] at h
  | _=>cases l <;> simp [slfV] at h
 | tup s l =>
  cases b with
  | tup t m =>
   cases n with
   | zero=>simp [slfV] at h
   | succ k=>simp only [slfV] at h; exact .inr (.inr (.inr (.inr (.inr (.inl ⟨k,s,t,l,m,rfl,rfl,rfl,h⟩)))))
  | _=>cases n <;> simp [slfV] at h
 | lst l =>
  cases b with
  | lst m =>
   cases n with
   | zero=>simp [slfV] at h
   | succ k=>simp only [slfV] at h; exact .inr (.inr (.inr (.inr (.inr (.inr ⟨k,l,m,rfl,rfl,rfl,h⟩)))))
  | _=>cases n <;> simp [slfV] at h
 | _=>cases b <;> simp [slfV] at h
theorem zn7 (wh : WH W H) (n : Nat) (one : ∀ (a b : Val) (x y : V) (v u : Value),slfV n a b=true→Rp (gl X T) W a x→Rp (gl X T) W b y→RelV x v→RelV y u→∀ A : Around,A.units + n < cLine→EqAt A s v u true) : ∀ (l m : List Val) (xs ys : List V) (vs us : List Value),zhD n l m=true→Rps (gl X T) W l xs→Rps (gl X T) W m ys→Vals xs vs→Vals ys us→∀ A : Around,A.units + n < cLine→∀ j (h1 : j < vs.length) (h2 : j < us.length),EqAt A s vs[j] us[j] true:=by
 intro l
 induction l with
 | nil =>
  intro m xs ys vs us h r1 r2 v1 v2 A hu j h1 h2
  cases r1; cases v1
  exact absurd h1 (Nat.not_lt_zero _)
 | cons a l ih =>
  intro m xs ys vs us h r1 r2 v1 v2 A hu j h1 h2
  cases m with
  | nil=>simp [zhD] at h
  | cons b m =>
   obtain ⟨ha,hl⟩:=slf_cons h
   cases r1 with
   | cons r1 t1 =>
    cases r2 with
    | cons r2 t2 =>
     cases v1 with
     | cons v1 w1 =>
      cases v2 with
      | cons v2 w2 =>
       cases j with
       | zero=>exact one a b _ _ _ _ ha r1 r2 v1 v2 A hu
       | succ j=>exact ih m _ _ _ _ hl t1 t2 w1 w2 A hu j (Nat.lt_of_succ_lt_succ h1) (Nat.lt_of_succ_lt_succ h2)
theorem slf_at (wh : WH W H) (I : Inv X pins σ H s) : ∀ (n : Nat) (a b : Val) (x y : V) (v u : Value),slfV n a b=true→Rp (gl X T) W a x→Rp (gl X T) W b y→RelV x v→RelV y u→∀ A : Around,A.units + n < cLine→EqAt A s v u true:=by
 intro n
 induction n using Nat.strongRecOn with
 | _ n ih =>
 intro a b x y v u h ra rb hx hy A hu
 rcases slf_c h with ⟨rfl,rfl⟩ | ⟨i,rfl,rfl⟩ | ⟨i,rfl,rfl⟩ | ⟨i,rfl,rfl⟩ | ⟨rfl,rfl⟩ | ⟨k,b1,b2,l,m,rfl,rfl,rfl,hl⟩ | ⟨k,l,m,rfl,rfl,rfl,hl⟩
 ·cases ra; cases rb; cases hx; cases hy; exact EqAt.same _
 ·cases ra; cases rb; cases hx; cases hy; exact EqAt.same _
 ·cases ra; cases rb
  obtain ⟨t,rfl⟩:=hx; obtain ⟨t',rfl⟩:=hy
  have z:=EqAt.int_int (A:=A) (s:=s) i t i t'
  simpa using z
 ·cases ra; cases rb
  obtain ⟨t,rfl⟩:=hx; obtain ⟨t',rfl⟩:=hy
  have z:=EqAt.str_str (A:=A) (s:=s) i t i t'
  simpa using z
 ·cases ra with
  | dct r1 d1 =>
   cases rb with
   | dct r2 d2 =>
    rename_i p _ q _
    cases hx; cases hy
    cases dct0I d1; cases dct0I d2
    obtain ⟨y1,z1⟩:=d0_of I (Rd.le' wh.zin r1)
    obtain ⟨y2,z2⟩:=d0_of I (Rd.le' wh.zin r2)
    by_cases e : p=q
    ·subst e; exact EqAt.same _
    ·exact EqAt.of_refs e (rc0 y1 y2 z1 z2 (by omega)).1
 ·obtain ⟨p,xs,rfl,s1,r1⟩:=Rp.tupI wh ra
  obtain ⟨q,ys,rfl,s2,r2⟩:=Rp.tupI wh rb
  cases hx; cases hy
  by_cases e : p=q
  ·subst e; exact EqAt.same _
  ·obtain ⟨is,v1,t1,_⟩:=I.tuple s1
   obtain ⟨js,v2,t2,_⟩:=I.tuple s2
   have z:=EqAt.of_refs e (RcAt.tuples (A:=A) t1 t2 (by omega) (e:=fun _=>true) fun j h1 h2=>zn7 wh k (ih k (by omega)) l m xs ys is js hl r1 r2 v1 v2 A.in1 (by show A.units + 1 + k < cLine; omega) j (by simpa using h1) (by simpa using h2))
   have ln : is.length=js.length:=by rw [← v1.length,← v2.length,← r1.length,← r2.length]; exact zjV hl
   simpa [ln,allt] using z
 ·cases ra with
  | lst s1 r1 =>
   cases rb with
   | lst s2 r2 =>
    rename_i p xs q ys
    cases hx; cases hy
    by_cases e : p=q
    ·subst e; exact EqAt.same _
    ·obtain ⟨is,v1,t1,_⟩:=I.list (SqL.le' wh.zin s1)
     obtain ⟨js,v2,t2,_⟩:=I.list (SqL.le' wh.zin s2)
     have ln : is.length=js.length:=by rw [← v1.length,← v2.length,← r1.length,← r2.length]; exact zjV hl
     have z:=EqAt.of_refs e (RcAt.lists (A:=A) t1.isList t2.isList (by simpa using ln) (by omega) (e:=fun _=>true) fun j h1 h2=>zn7 wh k (ih k (by omega)) l m xs ys is js hl r1 r2 v1 v2 A.in1 (by show A.units + 1 + k < cLine; omega) j (by simpa using h1) (by simpa using h2))
     simpa [ln,allt] using z
theorem slf_rc {a b : Val} {x y : V} {v u : Value} (wh : WH W H) (I : Inv X pins σ H s) (hu : X.A.units + 64 < cLine) (nf : (!zba a)=true) (h : slfV zaF a b=true) (la : Lk (gl X T) W H a x) (lb : Lk (gl X T) W H b y) (rx : RelV x v) (ry : RelV y u) : RcAt X.A s v u true∧RcNeAt X.A s v u false:=by
 rcases slf_c h with ⟨rfl,rfl⟩ | ⟨i,rfl,rfl⟩ | ⟨i,rfl,rfl⟩ | ⟨i,rfl,rfl⟩ | ⟨rfl,rfl⟩ | ⟨k,b1,b2,l,m,e,rfl,rfl,hl⟩ | ⟨k,l,m,e,rfl,rfl,hl⟩
 ·cases nf
 ·cases nf
 ·cases nf
 ·cases nf
 ·obtain ⟨p,o,rfl,r1,d1⟩:=la
  obtain ⟨q,o',rfl,r2,d2⟩:=lb
  cases rx; cases ry
  cases dct0I d1; cases dct0I d2
  obtain ⟨y1,z1⟩:=d0_of I r1
  obtain ⟨y2,z2⟩:=d0_of I r2
  exact rc0 y1 y2 z1 z2 (by omega)
 ·have hk : k = 49:=by have : (50 : Nat)=k + 1:=e; omega
  subst hk
  obtain ⟨p,xs,rfl,s1,r1⟩:=Rp.tupI wh la
  obtain ⟨q,ys,rfl,s2,r2⟩:=Rp.tupI wh lb
  cases rx; cases ry
  obtain ⟨is,v1,t1,_⟩:=I.tuple s1
  obtain ⟨js,v2,t2,_⟩:=I.tuple s2
  have ln : is.length=js.length:=by rw [← v1.length,← v2.length,← r1.length,← r2.length]; exact zjV hl
  have z:=fun (j : Nat) h1 h2=>zn7 wh 49 (slf_at wh I 49) l m xs ys is js hl r1 r2 v1 v2 X.A.in1 (by show X.A.units + 1 + 49 < cLine; omega) j h1 h2
  have z1:=RcAt.tuples (A:=X.A) t1 t2 (by omega) (e:=fun _=>true) fun j h1 h2=>z j (by simpa using h1) (by simpa using h2)
  have z2:=RcNeAt.tuples (A:=X.A) t1 t2 (by omega) (e:=fun _=>true) fun j h1 h2=>z j (by simpa using h1) (by simpa using h2)
  exact ⟨by simpa [ln,allt] using z1,by simpa [ln,allt] using z2⟩
 ·have hk : k = 49:=by have : (50 : Nat)=k + 1:=e; omega
  subst hk
  obtain ⟨p,xs,rfl,s1,r1⟩:=la
  obtain ⟨q,ys,rfl,s2,r2⟩:=lb
  cases rx; cases ry
  obtain ⟨is,v1,t1,_⟩:=I.list s1
  obtain ⟨js,v2,t2,_⟩:=I.list s2
  have ln : is.length=js.length:=by rw [← v1.length,← v2.length,← r1.length,← r2.length]; exact zjV hl
  have z:=fun (j : Nat) h1 h2=>zn7 wh 49 (slf_at wh I 49) l m xs ys is js hl r1 r2 v1 v2 X.A.in1 (by show X.A.units + 1 + 49 < cLine; omega) j h1 h2
  have z1:=RcAt.lists (A:=X.A) t1.isList t2.isList (by simpa using ln) (by omega) (e:=fun _=>true) fun j h1 h2=>z j (by simpa using h1) (by simpa using h2)
  have z2:=RcNeAt.lists (A:=X.A) t1.isList t2.isList (by simpa using ln) (by omega) (e:=fun _=>true) fun j h1 h2=>z j (by simpa using h1) (by simpa using h2)
  exact ⟨by simpa [ln,allt] using z1,by simpa [ln,allt] using z2⟩
end
end Fx
end
section
set_option maxHeartbeats 4000000
namespace Fx
open PySem PySem.Spec PyProof.Rows L2

mutual
def toD : Val→PyData
 | .none=>.none
 | .bool b=>.bool b
 | .int i=>.int i
 | .str s=>.str s
 | .tup _ l=>.tuple (toDs l)
 | .lst l=>.list (toDs l)
 | _=>.dict []
def toDs : List Val→List PyData
 | []=>[]
 | a :: as=>toD a :: toDs as
end
theorem b2i_eq (b : Bool) : b2i b=(if b then 1 else 0):=rfl
mutual
theorem zqM : ∀ a b : Val,peq a b=PyData.eqv (toD a) (toD b)
 | .none,b=>by cases b <;> simp [peq,toD,PyData.eqv]
 | .bool a,b=>by cases b <;> simp [peq,toD,PyData.eqv,b2i_eq] <;> rfl
 | .int a,b=>by cases b <;> simp [peq,toD,PyData.eqv,b2i_eq] <;> rfl
 | .str a,b=>by cases b <;> simp [peq,toD,PyData.eqv] <;> rfl
 | .tup _ a,.tup _ b=>by simp only [peq,toD,PyData.eqv]; exact znq a b
 | .lst a,.lst b=>by simp only [peq,toD,PyData.eqv]; exact znq a b
 | .tup _ a,.none=>by simp [peq,toD,PyData.eqv]
 | .tup _ a,.bool _=>by simp [peq,toD,PyData.eqv]
 | .tup _ a,.int _=>by simp [peq,toD,PyData.eqv]
 | .tup _ a,.str _=>by simp [peq,toD,PyData.eqv]
 | .tup _ a,.lst _=>by simp [peq,toD,PyData.eqv]
 | .tup _ a,.dct _=>by simp [peq,toD,PyData.eqv]
 | .tup _ a,.ref _=>by simp [peq,toD,PyData.eqv]
 | .tup _ a,.fn _=>by simp [peq,toD,PyData.eqv]
 | .tup _ a,.clo _ _=>by simp [peq,toD,PyData.eqv]
 | .tup _ a,.exc _ _ _=>by simp [peq,toD,PyData.eqv]
 | .lst a,.none=>by simp [peq,toD,PyData.eqv]
 | .lst a,.bool _=>by simp [peq,toD,PyData.eqv]
 | .lst a,.int _=>by simp [peq,toD,PyData.eqv]
 | .lst a,.str _=>by simp [peq,toD,PyData.eqv]
 | .lst a,.tup _ _=>by simp [peq,toD,PyData.eqv]
 | .lst a,.dct _=>by simp [peq,toD,PyData.eqv]
 | .lst a,.ref _=>by simp [peq,toD,PyData.eqv]
 | .lst a,.fn _=>by simp [peq,toD,PyData.eqv]
 | .lst a,.clo _ _=>by simp [peq,toD,PyData.eqv]
 | .lst a,.exc _ _ _=>by simp [peq,toD,PyData.eqv]
 | .dct _,b=>by cases b <;> simp [peq,toD,PyData.eqv]
 | .ref _,b=>by cases b <;> simp [peq,toD,PyData.eqv]
 | .fn _,b=>by cases b <;> simp [peq,toD,PyData.eqv]
 | .clo _ _,b=>by cases b <;> simp [peq,toD,PyData.eqv]
 | .exc _ _ _,b=>by cases b <;> simp [peq,toD,PyData.eqv]
theorem znq : ∀ a b : List Val,peqs a b=PyData.eqvAll (toDs a) (toDs b)
 | [],[]=>by simp [peqs,toDs,PyData.eqvAll]
 | [],_ :: _=>by simp [peqs,toDs,PyData.eqvAll]
 | _ :: _,[]=>by simp [peqs,toDs,PyData.eqvAll]
 | a :: as,b :: bs=>by simp only [peqs,toDs,PyData.eqvAll]; rw [zqM a b,znq as bs]
end
mutual
theorem pd_lay : ∀ (n : Nat) (v : Val),isPD n v=true→(toD v).canLay0=true∧(toD v).depth≤n
 | _,.none,_=>by simp [toD,PyData.canLay0,PyData.depth]
 | _,.bool _,_=>by simp [toD,PyData.canLay0,PyData.depth]
 | _,.int _,_=>by simp [toD,PyData.canLay0,PyData.depth]
 | _,.str s,h=>by
  refine ⟨?_,by simp [toD,PyData.depth]⟩
  simp only [toD,PyData.canLay0]
  cases ‹Nat› <;> (simp only [isPD] at h; exact h)
 | 0,.tup _ _,h=>by simp [isPD] at h
 | 0,.lst _,h=>by simp [isPD] at h
 | n + 1,.tup _ l,h=>by
  obtain ⟨a,b⟩:=zqN n l (by simpa only [isPD] using h)
  exact ⟨by simp only [toD,PyData.canLay0]; exact a,by simp only [toD,PyData.depth]; omega⟩
 | n + 1,.lst l,h=>by
  obtain ⟨a,b⟩:=zqN n l (by simpa only [isPD] using h)
  exact ⟨by simp only [toD,PyData.canLay0]; exact a,by simp only [toD,PyData.depth]; omega⟩
 | 0,.dct _,h=>by simp [isPD] at h
 | 0,.ref _,h=>by simp [isPD] at h
 | 0,.fn _,h=>by simp [isPD] at h
 | 0,.clo _ _,h=>by simp [isPD] at h
 | 0,.exc _ _ _,h=>by simp [isPD] at h
 | _ + 1,.dct _,h=>by simp [isPD] at h
 | _ + 1,.ref _,h=>by simp [isPD] at h
 | _ + 1,.fn _,h=>by simp [isPD] at h
 | _ + 1,.clo _ _,h=>by simp [isPD] at h
 | _ + 1,.exc _ _ _,h=>by simp [isPD] at h
theorem zqN : ∀ (n : Nat) (l : List Val),znU n l=true→PyData.canLayAll0 (toDs l)=true∧PyData.depthAll (toDs l)≤n
 | _,[],_=>by simp [toDs,PyData.canLayAll0,PyData.depthAll]
 | n,a :: as,h=>by
  simp only [znU,Bool.and_eq_true] at h
  obtain ⟨a1,a2⟩:=pd_lay n a h.1
  obtain ⟨b1,b2⟩:=zqN n as h.2
  exact ⟨by simp only [toDs,PyData.canLayAll0,a1,b1]; rfl,by simp only [toDs,PyData.depthAll]; omega⟩
end
theorem zgW {v : Val} (h : isPD zaF v=true) : SeqAt.shaped (toD v)=true:=by
 obtain ⟨a,b⟩:=pd_lay _ v h
 unfold SeqAt.shaped
 rw [a,Bool.true_and,decide_eq_true_eq]
 exact Nat.le_trans b (by decide)
section
variable {G : Glb} {W : Wd} {H : Hp}
mutual
theorem Rp.dp (wh : WH W H) : ∀ {n : Nat} {v : Val} {x : V},isPD n v=true→Rp G W v x→Dp G.K H x (toD v)
 | _,_,_,_,.none=>by simp only [toD]; exact .non
 | _,_,_,_,.bool b=>by simp only [toD]; exact .bl b
 | _,_,_,_,.int i=>by simp only [toD]; exact .int i
 | _,_,_,_,.str s=>by simp only [toD]; exact .str s
 | 0,_,_,h,.tup _ _ _=>by simp [isPD] at h
 | 0,_,_,h,.lst _ _=>by simp [isPD] at h
 | n + 1,_,_,h,.tup a b _=>by simp only [toD]; exact .tup (SqT.le' wh.zin a) (Rps.dp wh (n:=n) (by simpa only [isPD] using h) b)
 | n + 1,_,_,h,.lst a b=>by simp only [toD]; exact .lst (SqL.le' wh.zin a) (Rps.dp wh (n:=n) (by simpa only [isPD] using h) b)
 | 0,_,_,h,.dct _ _=>by simp [isPD] at h
 | 0,_,_,h,.ref _=>by simp [isPD] at h
 | 0,_,_,h,.fn _=>by simp [isPD] at h
 | 0,_,_,h,.clo _ _ _ _=>by simp [isPD] at h
 | 0,_,_,h,.exc0 _ _=>by simp [isPD] at h
 | 0,_,_,h,.exc1 _ _ _ _=>by simp [isPD] at h
 | _ + 1,_,_,h,.dct _ _=>by simp [isPD] at h
 | _ + 1,_,_,h,.ref _=>by simp [isPD] at h
 | _ + 1,_,_,h,.fn _=>by simp [isPD] at h
 | _ + 1,_,_,h,.clo _ _ _ _=>by simp [isPD] at h
 | _ + 1,_,_,h,.exc0 _ _=>by simp [isPD] at h
 | _ + 1,_,_,h,.exc1 _ _ _ _=>by simp [isPD] at h
theorem Rps.dp (wh : WH W H) : ∀ {n : Nat} {l : List Val} {xs : List V},znU n l=true→Rps G W l xs→DpAll G.K H xs (toDs l)
 | _,_,_,_,.nil=>by simp only [toDs]; exact .nil
 | n,_,_,h,.cons r t=>by
  simp only [znU,Bool.and_eq_true] at h
  simp only [toDs]
  exact .cons (Rp.dp wh h.1 r) (Rps.dp wh h.2 t)
end
theorem Lk.dp (wh : WH W H) {n : Nat} {v : Val} {x : V} (h : isPD n v=true) (r : Lk G W H v x) : Dp G.K H x (toD v):=by
 cases v with
 | lst l =>
  obtain ⟨p,vs,rfl,a,b⟩:=r
  cases n with
  | zero=>simp [isPD] at h
  | succ n=>simp only [toD]; exact .lst a (Rps.dp wh (n:=n) (by simpa only [isPD] using h) b)
 | dct l=>cases n <;> simp [isPD] at h
 | _=>exact Rp.dp wh h r
theorem Rp.flat {v : Val} {x : V} (h : zba v=true) (r : Rp G W v x) : flatV x=true:=by
 cases r with
 | none=>rfl
 | bool _=>rfl
 | int _=>rfl
 | str _=>rfl
 | _=>cases h
theorem Rps.flat : ∀ {l : List Val} {xs : List V},l.all zba=true→Rps G W l xs→xs.all flatV=true
 | _,_,_,.nil=>rfl
 | _,_,h,.cons r t=>by
  rw [List.all_cons,Bool.and_eq_true] at h ⊢
  exact ⟨Rp.flat h.1 r,Rps.flat h.2 t⟩
end
section
variable {G : Glb} {W W' : Wd} {H : Hp}
theorem isKs_ky {k : Val} (h : isKs k=true) : ∃ kk,kyOf k=some kk:=by
 cases k with
 | int i=>exact ⟨_,rfl⟩
 | str s=>exact ⟨_,rfl⟩
 | _=>cases h
theorem ky_rp {k : Val} {kk : Key} {x : V} (h : kyOf k=some kk) (r : Rp G W k x) : x=kV kk:=by
 cases k with
 | int i=>cases h; cases r; rfl
 | str s=>cases h; cases r; rfl
 | _=>cases h
theorem ky_rp' {k : Val} {kk : Key} (h : kyOf k=some kk) : Rp G W k (kV kk):=by
 cases k with
 | int i=>cases h; exact .int _
 | str s=>cases h; exact .str _
 | _=>cases h
theorem ky_peq {a b : Val} {ka kb : Key} (ha : kyOf a=some ka) (hb : kyOf b=some kb) : peq a b=decide (ka=kb):=by
 cases a with
 | int i =>
  cases ha
  cases b with
  | int j=>cases hb; simp [peq]
  | str s=>cases hb; simp [peq]
  | _=>cases hb
 | str s =>
  cases ha
  cases b with
  | int j=>cases hb; simp [peq]
  | str s=>cases hb; simp [peq]
  | _=>cases hb
 | _=>cases ha
theorem Ents.length : ∀ {l : List (Val × Val)} {es : List (Key × V)},Ents G W l es→l.length=es.length
 | _,_,.nil=>rfl
 | _,_,.cons _ _ t=>by simp [Ents.length t]
def OR (G : Glb) (W : Wd) : Option Val→Option V→Prop
 | Option.none,Option.none=>True
 | some v,some x=>Rp G W v x
 | _,_=>False
theorem Ents.get {k : Val} {kk : Key} (hk : kyOf k=some kk) : ∀ {l : List (Val × Val)} {es : List (Key × V)},Ents G W l es→OR G W (dget l k) (valV es kk)
 | _,_,.nil=>trivial
 | _,_,.cons (k:=k') (kk:=kk') h r t=>by
  have e:=ky_peq h hk
  unfold dget valV
  simp only [List.find?_cons]
  rw [e]
  by_cases q : kk' = kk
  ·simp only [decide_eq_true q]; exact r
  ·simp only [decide_eq_false q]; exact Ents.get hk t
end
section
variable {X : Cx} {T : Tb}
theorem DctR.f2 {G : Glb} {W : Wd} {l : List (Val × Val)} {p : Addr} {o : HO} (d : DctR G W p l o) (h : (l.all fun p=>isKs p.1)=true) : ∃ kvs,o = .dK kvs∧Ents G W l kvs:=by
 cases d with
 | flat e=>exact ⟨_,rfl,e⟩
 | nest n e =>
  cases e with
  | nil=>exact absurd rfl n
  | cons h1 h2 h3 h4 t =>
   rw [List.all_cons,Bool.and_eq_true] at h
   rename_i k v kk a vx l' es'
   cases k <;> first | (cases h2; done) | (cases h.1; done)
theorem eqi_of {v : Val} {o : Option Val} (h : eqInt v o=true) : ∃ i,v = .int i∧o=some (.int i):=by
 unfold eqInt at h
 split at h
 ·rename_i i j
  exact ⟨i,rfl,by rw [of_decide_eq_true h]⟩
 ·cases h
theorem ents_hit {G : Glb} {W W' : Wd} {m : List (Val × Val)} {kvs : List (Key × V)} (em : Ents G W' m kvs) : ∀ {l : List (Val × Val)} {ks : List (Key × V)},Ents G W l ks→(l.all fun p=>isKs p.1 && eqInt p.2 (dget m p.1))=true→∀ p∈ks,valV kvs p.1=some p.2∧flatB p.2=true
 | _,_,.nil,_,p,h=>absurd h List.not_mem_nil
 | _,_,.cons (k:=k) (v:=v) (kk:=kk) (vx:=vx) hk r t,h,p,mp=>by
  rw [List.all_cons,Bool.and_eq_true] at h
  rcases List.mem_cons.mp mp with rfl | mp
  ·obtain ⟨i,e1,e2⟩:=eqi_of (Bool.and_eq_true_iff.mp h.1).2
   have z:=Ents.get hk em
   have e1 : v = .int i:=e1
   have e2 : dget m k=some (.int i):=e2
   rw [e2] at z
   subst e1
   cases r
   cases q : valV kvs kk with
   | none=>rw [q] at z; exact z.elim
   | some x =>
    rw [q] at z
    cases (show Rp G W' (.int i) x from z)
    exact ⟨rfl,rfl⟩
  ·exact ents_hit em t h.2 p mp
theorem op_eqE (hu : X.A.units < cLine) : OpR X (compareOp .Eq) (fun x y H Q=>∃ a b ks kvs,x = .ref a∧y = .ref b∧Rd H a (.dK ks)∧Rd H b (.dK kvs)∧ks.length=kvs.length∧(∀ p∈ks,valV kvs p.1=some p.2∧flatB p.2=true)∧Q (.bl true) H):=by
 intro pins s σ H x y v u Q I rx ry h
 obtain ⟨a,b,ks,kvs,rfl,rfl,ea,eb,le,hh,q⟩:=h
 obtain rfl : v=Value.ref a:=rx
 obtain rfl : u=Value.ref b:=ry
 obtain ⟨_,ya,va,ra,da⟩:=(show ObjOk X.prog X.w H s.heap a (.dK ks) from rd_of I.hok ea)
 obtain ⟨_,yb,vb,rb,db⟩:=(show ObjOk X.prog X.w H s.heap b (.dK kvs) from rd_of I.hok eb)
 have hl : va.length=vb.length:=by rw [← ra.length,← rb.length]; exact le
 exact PySem.W.keq_eq (knd:=mixKind X.prog X.w) (r:=true) ya yb da db hu (fun _=>hits_all rb ra hh) (fin_bl I q (by simp [hl]))
theorem zhH (hu : X.A.units + 64 < cLine) : OpR X (compareOp .Eq) (P2 X T .eq):=by
 intro pins s σ H x y v u Q I rx ry ⟨W,a,b,r,wh,la,lb,hp,k⟩
 have hp : (if (isPD zaF a && isPD zaF b)=true then some (Val.bool (peq a b)) else if eqDct a b=true then some (Val.bool true) else if (!zba a && slfV zaF a b)=true then some (Val.bool true) else Option.none)=some r:=hp
 by_cases q : (isPD zaF a && isPD zaF b)=true
 ·rw [if_pos q] at hp; cases hp
  rw [Bool.and_eq_true] at q
  refine op_eqD hu pins s σ H x y v u Q I rx ry ⟨toD a,toD b,Lk.dp wh q.1 la,Lk.dp wh q.2 lb,zgW q.1,zgW q.2,?_⟩
  rw [← zqM]
  exact k W _ H (Ext.refl _) (Wup.refl _) wh zg0 (Rp.bool _)
 ·rw [if_neg q] at hp
  by_cases q2 : eqDct a b=true
  ·rw [if_pos q2] at hp; cases hp
   cases a with
   | dct l =>
    cases b with
    | dct m =>
     have q3 : (decide (l.length=m.length) && ((l.all fun p=>isKs p.1 && eqInt p.2 (dget m p.1)) && m.all fun p=>isKs p.1))=true:=q2
     rw [Bool.and_eq_true,Bool.and_eq_true] at q3
     obtain ⟨pa,oa,rfl,ha,da⟩:=la
     obtain ⟨pb,ob,rfl,hb,db⟩:=lb
     have kl : (l.all fun p=>isKs p.1)=true:=by
      rw [List.all_eq_true] at q3 ⊢
      exact fun x mx=>(Bool.and_eq_true_iff.mp (q3.2.1 x mx)).1
     obtain ⟨ks,rfl,el⟩:=da.f2 kl
     obtain ⟨kvs,rfl,em⟩:=db.f2 q3.2.2
     refine op_eqE (Nat.lt_of_le_of_lt (Nat.le_add_right _ 64) hu) pins s σ H _ _ v u Q I rx ry ⟨pa,pb,ks,kvs,rfl,rfl,ha,hb,?_,ents_hit em el q3.2.1,k W _ H (Ext.refl _) (Wup.refl _) wh zg0 (Rp.bool _)⟩
     rw [← el.length,← em.length]; exact of_decide_eq_true q3.1
    | _=>cases q2
   | _=>cases q2
  ·rw [if_neg q2] at hp
   by_cases q3 : (!zba a && slfV zaF a b)=true
   ·rw [if_pos q3] at hp; cases hp
    exact (slf_rc wh I hu (Bool.and_eq_true_iff.mp q3).1 (Bool.and_eq_true_iff.mp q3).2 la lb rx ry).1 _ _ _ _ ⟨.bl _,H,I,rfl,k W _ H (Ext.refl _) (Wup.refl _) wh zg0 (Rp.bool _)⟩
   ·rw [if_neg q3] at hp; cases hp
theorem zqB (hu : X.A.units + 64 < cLine) : OpR X (compareOp .NotEq) (P2 X T .ne):=by
 intro pins s σ H x y v u Q I rx ry ⟨W,a,b,r,wh,la,lb,hp,k⟩
 have hp : (if (isPD zaF a && isPD zaF b)=true then some (Val.bool (!peq a b)) else if (!zba a && slfV zaF a b)=true then some (Val.bool false) else Option.none)=some r:=hp
 by_cases q : (isPD zaF a && isPD zaF b)=true
 ·rw [if_pos q] at hp; cases hp
  rw [Bool.and_eq_true] at q
  refine op_neD hu pins s σ H x y v u Q I rx ry ⟨toD a,toD b,Lk.dp wh q.1 la,Lk.dp wh q.2 lb,zgW q.1,zgW q.2,?_⟩
  rw [← zqM]
  exact k W _ H (Ext.refl _) (Wup.refl _) wh zg0 (Rp.bool _)
 ·rw [if_neg q] at hp
  by_cases q3 : (!zba a && slfV zaF a b)=true
  ·rw [if_pos q3] at hp; cases hp
   exact (slf_rc wh I hu (Bool.and_eq_true_iff.mp q3).1 (Bool.and_eq_true_iff.mp q3).2 la lb rx ry).2 _ _ _ _ ⟨.bl _,H,I,rfl,k W _ H (Ext.refl _) (Wup.refl _) wh zg0 (Rp.bool _)⟩
  ·rw [if_neg q3] at hp; cases hp
theorem Lk.tru {W : Wd} {H : Hp} (wh : WH W H) {v : Val} {x : V} {c : Bool} (h : truthy v=some c) (r : Lk (gl X T) W H v x) : TruV X.K x H c:=by
 cases v with
 | none=>cases h; cases Rp.noneI r; exact rfl
 | bool b=>cases h; cases Rp.boolI r; exact rfl
 | int i =>
  cases h; cases Rp.intI r
  show decide (i≠0)=(i != 0)
  by_cases e : i = 0 <;> simp [e]
 | str z =>
  have e:=Rp.strI r
  subst e
  have h : (if z.length≤16777216 then some (decide (z.length≠0)) else Option.none)=some c:=h
  by_cases q : z.length≤16777216
  ·rw [if_pos q] at h; cases h
   refine ⟨by rw [← zhW]; exact q,?_⟩
   by_cases e : z.length = 0 <;> simp [e]
  ·rw [if_neg q] at h; cases h
 | tup bt l =>
  cases h
  obtain ⟨p,vs,rfl,hs,rl⟩:=Rp.tupI wh r
  refine .inr (.inl ⟨vs,hs,?_⟩)
  cases rl <;> rfl
 | lst l =>
  cases h
  obtain ⟨p,vs,rfl,hs,rl⟩:=r
  refine .inl ⟨vs,hs,?_⟩
  cases rl <;> rfl
 | _=>cases h
end
end Fx
end
section
set_option maxHeartbeats 4000000
namespace Fx
open PySem PySem.Spec PyProof.Rows L2
def Kn (X : Cx) (T : Tb) (W : Wd) (H : Hp) (v : Val) (Q : VK) : Prop :=
 ∀ W' z H',Ext H H'→Wup W W'→WH W' H'→(∀ q,H q≠none→W'.Z q=W.Z q)→ResR (gl X T) true H W' H' v z→Q z H'
def C1 (X : Cx) (T : Tb) (p : Prim) : List V→Hp→VK→Prop:=fun xs H Q=>∃ W a v x,xs = [x]∧WH W H∧Lk (gl X T) W H a x∧za5 p [a]=some v∧Kn X T W H v Q
def C2 (X : Cx) (T : Tb) (p : Prim) : List V→Hp→VK→Prop:=fun xs H Q=>∃ W a b v x y,xs = [x,y]∧WH W H∧Lk (gl X T) W H a x∧Lk (gl X T) W H b y∧za5 p [a,b]=some v∧Kn X T W H v Q
section
variable {X : Cx} {T : Tb} {W : Wd} {H : Hp}
theorem Kn.now {v : Val} {z : V} {Q : VK} (k : Kn X T W H v Q) (wh : WH W H) (r : ResR (gl X T) true H W H v z) : Q z H:=k W z H (Ext.refl _) (Wup.refl _) wh zg0 r
theorem Kn.lst {l : List Val} {vs : List V} {Q : VK} (k : Kn X T W H (.lst l) Q) (wh : WH W H) (r : Rps (gl X T) W l vs) {p : Addr} (hn : H p=none) : Q (.ref p) (upd H p (.lst vs)) :=
 k W _ _ (Ext.upd hn) (Wup.refl _) (wh.up (Ext.upd hn)) zg0 (zpL wh hn r)
theorem Kn.tup {l : List Val} {vs : List V} {Q : VK} (k : Kn X T W H (.tup false l) Q) (wh : WH W H) (r : Rps (gl X T) W l vs) {p : Addr} (hn : H p=none) : Q (.ref p) (upd H p (.tup vs)):=by
 obtain ⟨W',u1,w1,z1,r1⟩:=znx (X:=X) (T:=T) wh hn r
 exact k W' _ _ (Ext.upd hn) u1 w1 z1 r1
theorem Rp.res {v : Val} {x : V} {Q : VK} (k : Kn X T W H v Q) (wh : WH W H) (r : Rp (gl X T) W v x) (hv : ∀ l,v≠.lst l) (hd : ∀ l,v≠.dct l) : Q x H:=by
 refine k.now wh ?_
 cases v with
 | lst l=>exact absurd rfl (hv l)
 | dct l=>exact absurd rfl (hd l)
 | _=>exact r
theorem len_dct : CallR X (.builtin "len") (fun xs H Q=>∃ p kvs,xs = [V.ref p]∧Rd H p (.dK kvs)∧Q (.int kvs.length) H):=by
 intro pins s σ H xs us Q I r ⟨p,kvs,e,rd,q⟩
 subst e
 obtain ⟨u,rfl,rx⟩:=vals1 r
 cases rx
 obtain ⟨hl,y,v,rv,d⟩:=(show ObjOk X.prog X.w H s.heap p (.dK kvs) from rd_of I.hok rd)
 have e:=rv.length
 have h63:=line63
 exact call_len_dict y d (by rw [← e]; omega) ⟨.int _,H,I.tok _,⟨_,by rw [e]⟩,q⟩
theorem zgR : CallR X (.builtin "len") (C1 X T .len):=by
 intro pins s σ H xs us Q I r ⟨W,a,v,x,e,wh,la,hp,k⟩
 cases a with
 | tup bt l =>
  cases hp
  obtain ⟨p,vs,rfl,hs,rl⟩:=Rp.tupI wh la
  exact call_len pins s σ H xs us Q I r ⟨_,vs.length,e,.inr ⟨vs,hs,rfl⟩,by rw [← rl.length]; exact k.now wh (Rp.int _)⟩
 | lst l =>
  cases hp
  obtain ⟨p,vs,rfl,hs,rl⟩:=la
  exact call_len pins s σ H xs us Q I r ⟨_,vs.length,e,.inl ⟨vs,hs,rfl⟩,by rw [← rl.length]; exact k.now wh (Rp.int _)⟩
 | str z =>
  have e1:=Rp.strI la
  subst e1
  have hp : (if z.length≤line then some (Val.int z.length) else Option.none)=some v:=hp
  by_cases q : z.length≤line
  ·rw [if_pos q] at hp; cases hp
   exact call_len pins s σ H xs us Q I r ⟨_,z.length,e,⟨by rw [← zhW]; exact q,rfl⟩,k.now wh (Rp.int _)⟩
  ·rw [if_neg q] at hp; cases hp
 | dct l =>
  have hp : (if (l.all fun p=>isKs p.1)=true then some (Val.int l.length) else Option.none)=some v:=hp
  by_cases q : (l.all fun p=>isKs p.1)=true
  ·rw [if_pos q] at hp; cases hp
   obtain ⟨p,o,rfl,ht,d⟩:=la
   obtain ⟨kvs,rfl,el⟩:=d.f2 q
   exact len_dct pins s σ H xs us Q I r ⟨p,kvs,e,ht,by rw [← el.length]; exact k.now wh (Rp.int _)⟩
  ·rw [if_neg q] at hp; cases hp
 | _=>cases hp
theorem ixAt_eq (n : Nat) (i : Int) : ixAt n i=L2.ixN n i:=rfl
theorem atI_of {l : List Val} {vs : List V} {i : Int} {v : Val} (r : Rps (gl X T) W l vs) (h : ((ixAt l.length i).bind fun k=>l[k]?)=some v) : ∃ x,L2.atI vs i=some x∧Rp (gl X T) W v x:=by
 rw [ixAt_eq] at h
 cases e : L2.ixN l.length i with
 | none=>rw [e] at h; cases h
 | some k =>
  rw [e] at h
  obtain ⟨x,hx,rx⟩:=r.get (i:=k) (v:=v) h
  refine ⟨x,?_,rx⟩
  unfold L2.atI
  rw [← r.length,e]
  exact hx
def I2 (X : Cx) (T : Tb) : R2:=fun x y H Q=>∃ W a b v,WH W H∧Lk (gl X T) W H a x∧Lk (gl X T) W H b y∧(∀ l,a≠.dct l)∧za5 .item [a,b]=some v∧∀ z,Rp (gl X T) W v z→Q z H
theorem prim_item : IxR X (I2 X T):=by
 intro value slice pins s σ H x y v u Q I rx ry ⟨W,a,b,w,wh,la,lb,nd,hp,k⟩
 cases a with
 | tup bt l =>
  cases b with
  | int i =>
   obtain ⟨p,vs,rfl,hs,rl⟩:=Rp.tupI wh la
   obtain ⟨z,hz,rz⟩:=atI_of rl hp
   exact ix_seq value slice pins s σ H _ y v u Q I rx ry (.inr (.inl ⟨p,vs,i,z,rfl,Rp.intI lb,hs,hz,k z rz⟩))
  | _=>cases hp
 | lst l =>
  cases b with
  | int i =>
   obtain ⟨p,vs,rfl,hs,rl⟩:=la
   obtain ⟨z,hz,rz⟩:=atI_of rl hp
   exact ix_seq value slice pins s σ H _ y v u Q I rx ry (.inl ⟨p,vs,i,z,rfl,Rp.intI lb,hs,hz,k z rz⟩)
  | _=>cases hp
 | dct l=>exact absurd rfl (nd l)
 | _=>cases b <;> cases hp
theorem cutIx_eq (n d : Nat) (o : Option Int) : cutIx n d o=HT.sIx n d o:=by cases o <;> rfl
theorem Rps.cut {l : List Val} {vs : List V} (r : Rps (gl X T) W l vs) (lo hi : Option Int) : Rps (gl X T) W (cutL l lo hi) (L2.cutV vs lo hi):=by
 unfold cutL L2.cutV
 rw [r.length]
 simp only [cutIx_eq]
 exact (r.drop _).take _
def tyName : Val→String
 | .none=>"NoneType"
 | .bool _=>"bool"
 | .int _=>"int"
 | .str _=>"str"
 | .tup _ _=>"tuple"
 | .dct _=>"dict"
 | _=>"list"
def Ty.name : Ty→String
 | .int=>"int"
 | .bool=>"bool"
 | .str=>"str"
 | .tup=>"tuple"
 | .lst=>"list"
 | .dct=>"dict"
theorem Lk.ty (wh : WH W H) {v : Val} {x : V} (h : isPlain v=true) (r : Lk (gl X T) W H v x) : TyX X.K H x (.type (tyName v)):=by
 cases v with
 | none=>cases Rp.noneI r; exact .base .non
 | bool b=>cases Rp.boolI r; exact .base (.bl _)
 | int b=>cases Rp.intI r; exact .base (.int _)
 | str b=>cases Rp.strI r; exact .base (.str _)
 | tup bt l =>
  obtain ⟨p,vs,rfl,ht,rl⟩:=Rp.tupI wh r
  rcases ht with (ht | ⟨o,ht⟩) | ⟨o,its,n,hk,hc,_⟩
  ·exact .base (.tup ht)
  ·exact .fTuple ht
  ·exact .kTuple hk hc
 | lst l =>
  obtain ⟨p,vs,rfl,ht,rl⟩:=r
  rcases ht with (ht | ⟨o,ht⟩) | ⟨o,its,n,hk,hc,_⟩
  ·exact .base (.lst ht)
  ·exact .base (.frz ht)
  ·exact .kList hk hc
 | dct l =>
  obtain ⟨p,o,rfl,ht,d⟩:=r
  cases d with
  | flat _ =>
   rcases ht with ht | ⟨o,ht⟩
   ·exact .base (.dK ht)
   ·exact .fDict ht
  | nest n e =>
   exfalso
   cases e with
   | nil=>exact n rfl
   | @cons k v kk a vx l es h0 hk _ _ _ =>
    have h : (isKs k && _)=true:=h
    rw [Bool.and_eq_true_iff] at h
    have h1:=h.1
    cases k <;> first | (cases hk; done) | (cases h1; done)
 | _=>cases h
theorem kit_has {v : Val} (h : isPlain v=true) (t : Ty) : kitB (tyName v) t.name=some (zdS v t):=by
 cases v <;> first | (cases t <;> (simp only [zdS,Ty.name,tyName]; decide +kernel)) | exact absurd h Bool.false_ne_true
theorem kit_any {K : PySem.W.Frag} {v : Val} (h : isPlain v=true) : ∀ ts : List Ty,PySem.W.kitAny K (.type (tyName v)) (ts.map fun t=>Value.type t.name)=some (ts.any fun t=>zdS v t)
 | []=>rfl
 | t :: ts=>by
  have e:=kit_ty (K:=K) (kit_has h t)
  have ih:=kit_any (K:=K) h ts
  simp only [List.map_cons,PySem.W.kitAny,List.any_cons]
  rw [e,ih]
  cases zdS v t <;> rfl
theorem prim_isi1 (t : Ty) : CallR X (.builtin "isinstance") (fun xs H Q=>∃ W a v x,xs = [x,.ty t.name]∧WH W H∧Lk (gl X T) W H a x∧za5 (.isinst [t]) [a]=some v∧Kn X T W H v Q):=by
 intro pins s σ H xs us Q I r ⟨W,a,v,x,e,wh,la,hp,k⟩
 have hp : (if isPlain a=true then some (Val.bool ([t].any fun t=>zdS a t)) else Option.none)=some v:=hp
 by_cases q : isPlain a=true
 ·rw [if_pos q] at hp; cases hp
  refine call_isi pins s σ H xs us Q I r ⟨x,.ty t.name,_,_,_,e,.ty _,Lk.ty wh q la,kit_ty (kit_has q t),?_⟩
  have z : ([t].any fun t=>zdS a t)=zdS a t:=by simp
  rw [z] at k
  exact k.now wh (Rp.bool _)
 ·rw [if_neg q] at hp; cases hp
theorem zmu : ∀ ts : List Ty,Paired ClsV (ts.map fun t=>V.ty t.name) (ts.map fun t=>Value.type t.name)
 | []=>.nil
 | t :: ts=>.cons (.ty _) (zmu ts)
theorem prim_isiT (ts : List Ty) : CallR X (.builtin "isinstance") (fun xs H Q=>∃ W a v x tp,xs = [x,.ref tp]∧H tp=some (.tup (ts.map fun t=>V.ty t.name))∧WH W H∧Lk (gl X T) W H a x∧za5 (.isinst ts) [a]=some v∧Kn X T W H v Q):=by
 intro pins s σ H xs us Q I r ⟨W,a,v,x,tp,e,ht,wh,la,hp,k⟩
 have hp : (if isPlain a=true then some (Val.bool (ts.any fun t=>zdS a t)) else Option.none)=some v:=hp
 by_cases q : isPlain a=true
 ·rw [if_pos q] at hp; cases hp
  exact call_isiT pins s σ H xs us Q I r ⟨x,tp,_,_,_,_,e,ht,zmu ts,Lk.ty wh q la,kit_any q ts,k.now wh (Rp.bool _)⟩
 ·rw [if_neg q] at hp; cases hp
theorem zfC : CallR X (.type "int") (C1 X T .toInt):=by
 intro pins s σ H xs us Q I r ⟨W,a,v,x,e,wh,la,hp,k⟩
 cases a with
 | int i =>
  cases hp
  cases Rp.intI la
  exact call_int1 pins s σ H xs us Q I r (.inl ⟨i,e,k.now wh (Rp.int _)⟩)
 | bool b =>
  cases hp
  cases Rp.boolI la
  exact call_int1 pins s σ H xs us Q I r (.inr ⟨b,e,k.now wh (Rp.int _)⟩)
 | _=>cases hp
theorem prim_min2 (hc : X.calm=true) : CallR X (.builtin "min") (C2 X T .min2):=by
 intro pins s σ H xs us Q I r ⟨W,a,b,v,x,y,e,wh,la,lb,hp,k⟩
 cases a with
 | int i =>
  cases b with
  | int j =>
   cases hp
   cases Rp.intI la
   cases Rp.intI lb
   exact call_min2 hc pins s σ H xs us Q I r ⟨i,j,e,k.now wh (Rp.int _)⟩
  | _=>cases hp
 | _=>cases b <;> cases hp
end
end Fx
end
section
set_option maxHeartbeats 4000000
namespace Fx
open PySem PySem.Spec PyProof.Rows L2
section
variable {X : Cx} {T : Tb} {Wx : WX} {W W1 W' : Wd} {H H1 H' : Hp} {σ : St} {fr fr1 : Fr} {h h1 : MH} {e a b : Expr} {pos : Pos} {t t' : TE} {TT : Tbl} {C : Callee}

theorem RX.kn (r : RX X T W H fr σ h) (e : Ext H H') (u : Wup W W') (w : WH W' H') (z : ∀ q,H q≠none→W'.Z q=W.Z q) : RX X T W' H' fr σ h∧Evo W H W' H':=by
 refine ⟨R.up u (fun p o q=>⟨(w.zin p o q).1,?_,(w.zin p o q).2,fun vs e=>by subst e; exact w.zl p vs q⟩) w.fin (R.ext e r),⟨u.le,fun p o q _ n=>⟨e p o q,by rw [u.own]; exact n⟩,fun p o q zn n=>?_,fun a f q=>by rw [u.asn]; exact q,fun a f q _ o=>by rw [← u.own]; exact o,e.dom,fun _ _ r r' _ a b=>by rw [u.own,a] at b; cases b; rfl,fun _ _ _ n=>by rw [u.own]; exact n⟩⟩
 ·rw [u.own]
  by_cases hq : H p=none
  ·exact ((WH.of r).new hq).2
  ·rw [z p hq] at q
   exact (r.h.zin p o q).no
 ·rw [z p (by rw [q]; exact nofun)]
  exact zn
theorem ResR.dom {G : Glb} {f : Bool} {v : Val} {x : V} (d : ∀ p,H1 p=none→H p=none) (r : ResR G f H1 W' H' v x) : ResR G f H W' H' v x:=by
 cases f with
 | false=>exact r
 | true =>
  cases v with
  | lst l=>obtain ⟨p,e,n,q⟩:=r; exact ⟨p,e,d p n,q⟩
  | dct l=>obtain ⟨p,e,n,q⟩:=r; exact ⟨p,e,d p n,q⟩
  | _=>exact r
theorem OvR.evo {o : OV} {x : V} (ev : Evo W H W' H') (q : OvR X T σ W H o x) : OvR X T σ W' H' o x:=by
 cases o with
 | v v=>exact Rp.le ev.le q
 | sl i=>exact q
 | fl a f =>
  obtain ⟨p,e,as,u⟩:=q
  exact ⟨p,e,ev.asn a f as,fun p' o=>u p' (ev.hold a f p' as o)⟩
theorem lk_deref (r : RX X T W H fr σ h) {v : Val} {x : V} (q : Rp (gl X T) W v x) : Lk (gl X T) W H (zbN h v) x:=by
 cases v with
 | ref a =>
  cases q with
  | ref ha =>
   rename_i p
   cases e : h.objs[a]? with
   | none=>simp only [zbN,e]; exact .ref ha
   | some o =>
    obtain ⟨p',h1,h2,h3⟩:=r.h.objs a o e
    rw [ha] at h1; cases h1
    cases o with
    | inst c fs=>simp only [zbN,e]; exact .ref ha
    | hl l=>simp only [zbN,e]; exact Lk.cur (v:=.lst l) h3
    | hd l=>simp only [zbN,e]; exact Lk.cur (v:=.dct l) h3
 | _=>exact Lk.of (WH.of r) q
theorem zdf (r : RX X T W H fr σ h) {o : OV} {x : V} {v : Val} (q : OvR X T σ W H o x) (e : resolve o fr h=some v) : Lk (gl X T) W H v x:=by
 cases o with
 | v w=>cases e; exact lk_deref r q
 | sl i =>
  have e : ((fr[i]?).bind zn6).map (zbN h)=some v:=e
  cases hs : fr[i]? with
  | none=>rw [hs] at e; cases e
  | some s =>
   rw [hs] at e
   cases s with
   | val w =>
    cases e
    obtain ⟨y,hy,ry⟩:=r.f.at_ i _ hs
    have q : σ[i]? = some (some x):=q
    rw [hy] at q; cases q
    exact lk_deref r ry
   | own w =>
    obtain ⟨p,hy,_,cu⟩:=r.f.at_ i _ hs
    have q : σ[i]? = some (some x):=q
    rw [hy] at q; cases q
    have e : some (zbN h w)=some v:=e
    cases w with
    | lst l=>cases e; exact Lk.cur cu
    | dct l=>cases e; exact Lk.cur cu
    | _=>exact cu.elim
   | _=>cases e
 | fl a f =>
  obtain ⟨p,rfl,_,u⟩:=q
  have e : (match fieldOf h a f with | some (.own v)=>some v | _=>Option.none)=some v:=e
  unfold fieldOf at e
  cases ho : h.objs[a]? with
  | none=>rw [ho] at e; cases e
  | some o =>
   rw [ho] at e
   cases o with
   | inst c fs =>
    obtain ⟨p',_,_,C,dx,vs,_,_,h3,_⟩:=r.h.objs a _ ho
    cases hl : zkD fs f with
    | none=>simp only [hl] at e; cases e
    | some s =>
     simp only [hl] at e
     cases s with
     | own w =>
      cases e
      obtain ⟨q',_,o',cu⟩:=h3 f _ hl
      rw [u q' o'] at cu
      exact Lk.cur cu
     | _=>cases e
   | _=>cases e
theorem od_e {f : Bool} {m : Fr→MH→Res Val} (p : PE X e (tE X T Wx f m)) : PE X e (tO X T Wx (bnd m fun v=>rt (OV.v v))):=by
 refine PE.wk (PE.un p) fun σ H Q q=>?_
 obtain ⟨W,fr,h,r,a⟩:=q
 refine ⟨W,fr,h,r,?_⟩
 have z:=After.bnd (Rel:=ResR (gl X T) false H) a
 cases q : m fr h with
 | ok v fr1 h1 =>
  rw [q] at z
  intro W1 x H1 ev r1 rr
  obtain ⟨W2,v2,fr2,h2,ev2,r2,rr2,e2,a2⟩:=z W1 x H1 ev r1 rr
  cases e2
  exact a2 W2 x H1 (Evo.refl _ _) r2 rr2
 | exn c y fr1 h1=>rw [q] at z; exact z
 | stuck=>rw [q] at z; exact z.elim
theorem od_b {i : Nat} {x : Str} (hN : X.N[i]? = some x) (hv : Vis X.env.scope x) (hd : (x == ("__debug__" : Str))=false) (hcd : (x == ("__classdict__" : Str))=false) :
  PE X (.Name x pos) (tO X T Wx (fun σ h=>match σ[i]? with | some (.val _)=>.ok (OV.sl i) σ h | some (.own _)=>.ok (OV.sl i) σ h | _=>.stuck)):=by
 refine PE.wk (pe_var hN hv hd hcd) fun σ H Q q=>?_
 obtain ⟨W,fr,h,r,a⟩:=q
 cases e : fr[i]? with
 | none=>simp only [e] at a; exact a.elim
 | some s =>
  simp only [e] at a
  cases s with
  | val v =>
   obtain ⟨y,hy,_⟩:=r.f.at_ i _ e
   exact ⟨y,hy,a W y H (Evo.refl _ _) r hy⟩
  | own v =>
   obtain ⟨p,hy,_⟩:=r.f.at_ i _ e
   exact ⟨.ref p,hy,a W _ H (Evo.refl _ _) r hy⟩
  | _=>exact a.elim
theorem fin2 {p : Prim} {o1 o2 : OV} {x y : V} {Q : VK} {H0 : Hp} (d : ∀ p,H p=none→H0 p=none) (r : RX X T W H fr σ h) (q1 : OvR X T σ W H o1 x) (q2 : OvR X T σ W H o2 y)
  (a : AfX X T Wx σ (ResR (gl X T) true H0) W H (fin p [o1,o2] fr h) Q) : P2 X T p x y H Q:=by
 unfold fin at a
 cases e1 : resolve o1 fr h with
 | none=>simp only [za9,e1,Option.bind_none] at a; exact a.elim
 | some v1 =>
  cases e2 : resolve o2 fr h with
  | none=>simp only [za9,e1,e2,Option.bind_none,Option.bind_some,Option.map_none] at a; exact a.elim
  | some v2 =>
   simp only [za9,e1,e2,Option.bind_some,Option.map_some] at a
   cases e3 : za5 p [v1,v2] with
   | none=>simp only [e3] at a; exact a.elim
   | some v =>
    simp only [e3] at a
    refine ⟨W,v1,v2,v,WH.of r,zdf r q1 e1,zdf r q2 e2,e3,fun W' z H' e u w k rr=>?_⟩
    obtain ⟨r',ev⟩:=RX.kn r e u w k
    exact a W' z H' ev r' (ResR.dom d rr)
theorem ods2 {o1 o2 : Fr→MH→Res OV} {p : Prim} {ta tb : TE} {r : R2} {H0 : Hp} (ha : ∀ σ H Q,tO X T Wx o1 σ H Q→ta σ H Q) (hb : ∀ σ H Q,tO X T Wx o2 σ H Q→tb σ H Q) (hr : ∀ x y H Q,P2 X T p x y H Q→r x y H Q)
  {σ : St} {H : Hp} {Q : VK} (q : tE X T Wx true (bnd (bnd o1 fun o=>bnd (bnd o2 fun o'=>bnd (rt []) fun vs=>rt (o' :: vs)) fun vs=>rt (o :: vs)) (fin p)) σ H Q) : tOp r ta tb σ H Q:=by
 obtain ⟨W,fr,h,r0,a⟩:=q
 refine ha σ H _ ⟨W,fr,h,r0,?_⟩
 -- the first operand
 cases q1 : o1 fr h with
 | stuck=>simp only [bnd,q1] at a; exact a.elim
 | exn c y fr1 h1=>simp only [bnd,q1] at a; exact a
 | ok v1 fr1 h1 =>
  simp only [bnd,q1] at a
  intro W1 x H1 ev1 r1 ov1
  refine hb σ H1 _ ⟨W1,fr1,h1,r1,?_⟩
  cases q2 : o2 fr1 h1 with
  | stuck=>simp only [bnd,q2] at a; exact a.elim
  | exn c y fr2 h2=>simp only [bnd,q2] at a; exact fun W' cls d H' ev=>a W' cls d H' (ev1.trans ev)
  | ok v2 fr2 h2 =>
   simp only [bnd,q2,rt] at a
   intro W2 y H2 ev2 r2 ov2
   refine hr x y H2 Q (fin2 (H0:=H) (fun p n=>ev1.dom p (ev2.dom p n)) r2 (OvR.evo ev2 ov1) ov2 (After.evo (W:=W) (H:=H) a (ev1.trans ev2)))
theorem snd_bin {op : Operator} {p : Prim} {o1 o2 : Fr→MH→Res OV} (ho : OpR X (binaryOp op) (P2 X T p)) (ha : PE X a (tO X T Wx o1)) (hb : PE X b (tO X T Wx o2)) :
  PE X (.BinOp a op b pos) (tE X T Wx true (bnd (bnd o1 fun o=>bnd (bnd o2 fun o'=>bnd (rt []) fun vs=>rt (o' :: vs)) fun vs=>rt (o :: vs)) (fin p))) :=
 PE.wk (pe_op ho ha hb) fun _ _ _ q=>ods2 (H0:=fun _=>none) (fun _ _ _ z=>z) (fun _ _ _ z=>z) (fun _ _ _ _ z=>z) q
theorem snd_cmp {op : CmpOp} {p : Prim} {o1 o2 : Fr→MH→Res OV} (ho : OpR X (compareOp op) (P2 X T p)) (ha : PE X a (tO X T Wx o1)) (hb : PE X b (tO X T Wx o2)) (hm : behindInMarks op b=false) :
  PE X (.Compare a [op] [b] pos) (tE X T Wx true (bnd (bnd o1 fun o=>bnd (bnd o2 fun o'=>bnd (rt []) fun vs=>rt (o' :: vs)) fun vs=>rt (o :: vs)) (fin p))) :=
 PE.wk (pe_cmpR ho ha hb hm) fun _ _ _ q=>ods2 (H0:=fun _=>none) (fun _ _ _ z=>z) (fun _ _ _ z=>z) (fun _ _ _ _ z=>z) q
end
end Fx
end
section
set_option maxHeartbeats 4000000
namespace Fx
open PySem PySem.Spec PyProof.Rows L2
inductive Od where
 | e (x : Exp) | b (i : Nat) | bf (x : Exp) (f : Nat)
@[reducible] def Od.cons : Od→Opds→Opds
 | .e x,r=>.e x r
 | .b i,r=>.b i r
 | .bf x f,r=>.bf x f r
noncomputable def evod (T : Tbl) (C : Callee) : Od→Fr→MH→Res OV
 | .e x=>bnd (ev T C x) fun v=>rt (OV.v v)
 | .b i=>fun σ h=>match σ[i]? with
  | some (.val _)=>.ok (OV.sl i) σ h
  | some (.own _)=>.ok (OV.sl i) σ h
  | _=>.stuck
 | .bf x f=>bnd (ev T C x) fun v σ h=>match v with
  | .ref a=>(match fieldOf h a f with
   | some (.own _)=>.ok (OV.fl a f) σ h
   | _=>.stuck)
  | _=>.stuck
theorem zeH {T : Tbl} {C : Callee} (o : Od) (r : Opds) : evo T C (o.cons r)=bnd (evod T C o) fun v=>bnd (evo T C r) fun vs=>rt (v :: vs):=by
 cases o <;> simp only [Od.cons,evo,evod] <;> rfl
theorem zdU {T : Tbl} {C : Callee} : evo T C .nil=rt []:=by simp only [evo]
section
variable {X : Cx} {T : Tb} {Wx : WX} {W W1 W' : Wd} {H H1 H' : Hp} {σ : St} {fr fr1 : Fr} {h h1 : MH} {e a b c : Expr} {pos : Pos} {t t' : TE} {TT : Tbl} {C : Callee} {f : Bool}

abbrev SE (X : Cx) (T : Tb) (Wx : WX) (TT : Tbl) (C : Callee) (f : Bool) (e : Expr) (x : Exp) : Prop:=PE X e (tE X T Wx f (ev TT C x))
abbrev SO (X : Cx) (T : Tb) (Wx : WX) (TT : Tbl) (C : Callee) (e : Expr) (o : Od) : Prop:=PE X e (tO X T Wx (evod TT C o))
theorem zaY {x : Exp} (p : SE X T Wx TT C f e x) : SO X T Wx TT C e (.e x):=od_e p
theorem zoE {i : Nat} {x : Str} (hN : X.N[i]? = some x) (hv : Vis X.env.scope x) (hd : (x == ("__debug__" : Str))=false) (hcd : (x == ("__classdict__" : Str))=false) :
  SO X T Wx TT C (.Name x pos) (.b i):=od_b hN hv hd hcd
theorem zch {op : Operator} {p : Prim} {o1 o2 : Od} (ho : OpR X (binaryOp op) (P2 X T p)) (ha : SO X T Wx TT C a o1) (hb : SO X T Wx TT C b o2) : SE X T Wx TT C true (.BinOp a op b pos) (.prim p (o1.cons (o2.cons .nil))):=by
 have q:=snd_bin (pos:=pos) ho ha hb
 show PE X _ (tE X T Wx true (ev TT C (.prim p (o1.cons (o2.cons .nil)))))
 simp only [ev,zeH,zdU]
 exact q
theorem zmw {op : CmpOp} {p : Prim} {o1 o2 : Od} (ho : OpR X (compareOp op) (P2 X T p)) (ha : SO X T Wx TT C a o1) (hb : SO X T Wx TT C b o2) (hm : behindInMarks op b=false) : SE X T Wx TT C true (.Compare a [op] [b] pos) (.prim p (o1.cons (o2.cons .nil))):=by
 have q:=snd_cmp (pos:=pos) ho ha hb hm
 show PE X _ (tE X T Wx true (ev TT C (.prim p (o1.cons (o2.cons .nil)))))
 simp only [ev,zeH,zdU]
 exact q
theorem ods2' {r : R2} {p : Prim} {o1 o2 : Od} {ta tb : TE} (ha : ∀ σ H Q,tO X T Wx (evod TT C o1) σ H Q→ta σ H Q) (hb : ∀ σ H Q,tO X T Wx (evod TT C o2) σ H Q→tb σ H Q)
  (hr : ∀ x y H Q,P2 X T p x y H Q→r x y H Q) {σ : St} {H : Hp} {Q : VK} (q : tE X T Wx true (ev TT C (.prim p (o1.cons (o2.cons .nil)))) σ H Q) : tOp r ta tb σ H Q:=by
 simp only [ev,zeH,zdU] at q
 exact ods2 (H0:=fun _=>none) ha hb hr q
theorem fin1 {p : Prim} {o1 : OV} {x : V} {Q : VK} {H0 : Hp} (d : ∀ p,H p=none→H0 p=none) (r : RX X T W H fr σ h) (q1 : OvR X T σ W H o1 x)
  (a : AfX X T Wx σ (ResR (gl X T) true H0) W H (fin p [o1] fr h) Q) : ∃ W a v,WH W H∧Lk (gl X T) W H a x∧za5 p [a]=some v∧Kn X T W H v Q:=by
 unfold fin at a
 cases e1 : resolve o1 fr h with
 | none=>simp only [za9,e1,Option.bind_none] at a; exact a.elim
 | some v1 =>
  simp only [za9,e1,Option.bind_some,Option.map_some] at a
  cases e3 : za5 p [v1] with
  | none=>simp only [e3] at a; exact a.elim
  | some v =>
   simp only [e3] at a
   refine ⟨W,v1,v,WH.of r,zdf r q1 e1,e3,fun W' z H' e u w k rr=>?_⟩
   obtain ⟨r',ev⟩:=RX.kn r e u w k
   exact a W' z H' ev r' (ResR.dom d rr)
def P1 (X : Cx) (T : Tb) (p : Prim) : V→Hp→VK→Prop:=fun x H Q=>∃ W a v,WH W H∧Lk (gl X T) W H a x∧za5 p [a]=some v∧Kn X T W H v Q
theorem ods1 {p : Prim} {o1 : Od} {ta : TE} {r : V→Hp→VK→Prop} (ha : ∀ σ H Q,tO X T Wx (evod TT C o1) σ H Q→ta σ H Q) (hr : ∀ x H Q,P1 X T p x H Q→r x H Q)
  {σ : St} {H : Hp} {Q : VK} (q : tE X T Wx true (ev TT C (.prim p (o1.cons .nil))) σ H Q) : tUn r ta σ H Q:=by
 simp only [ev,zeH,zdU] at q
 obtain ⟨W,fr,h,r0,a⟩:=q
 refine ha σ H _ ⟨W,fr,h,r0,?_⟩
 cases q1 : evod TT C o1 fr h with
 | stuck=>simp only [bnd,q1] at a; exact a.elim
 | exn c y fr1 h1=>simp only [bnd,q1] at a; exact a
 | ok v1 fr1 h1 =>
  simp only [bnd,q1,rt] at a
  intro W1 x H1 ev1 r1 ov1
  exact hr x H1 Q (fin1 (H0:=H) (fun p n=>ev1.dom p n) r1 ov1 (After.evo (W:=W) (H:=H) a ev1))
def P3 (X : Cx) (T : Tb) (p : Prim) : V→V→V→Hp→VK→Prop:=fun x y z H Q=>∃ W a b c v,WH W H∧Lk (gl X T) W H a x∧Lk (gl X T) W H b y∧Lk (gl X T) W H c z∧za5 p [a,b,c]=some v∧Kn X T W H v Q
theorem zfB {p : Prim} {o : Od} {x : Str} {bid : String} {pn : Pos} (hc : CallR X (.builtin bid) (C1 X T p)) (hg : Gl X x) (hm : X.mg x=none) (hv : bootBuiltins x=some (.builtin bid)) (ha : SO X T Wx TT C a o)
  (hn : x≠"__name__":=by decide) (hdb : (x == ("__debug__" : Str))=false:=by decide)
  (he : starEach [a] X.env=(false,eval a X.env) :: starEach [] X.env:=by rfl) (hpl : (PySem.backTo pos (starEach [] X.env)).any (·.1)=false:=by rfl) : SE X T Wx TT C true (.Call (.Name x pn) [a] [] pos) (.prim p (o.cons .nil)):=by
 refine PE.wk (pe_callB hc hg hm hv (pa_cons ha pa_nil he) hn hdb he hpl) fun σ H Q q=>?_
 exact ods1 (r:=fun x H Q=>C1 X T p [x] H Q) (fun _ _ _ z=>z) (fun x H Q ⟨W,a,v,wh,la,hp,k⟩=>⟨W,a,v,x,rfl,wh,la,hp,k⟩) q
theorem zgL {p : Prim} {o : Od} {x : Str} {bid : String} {pn : Pos} (hc : CallR X (.type bid) (C1 X T p)) (hg : Gl X x) (hm : X.mg x=none) (hv : bootBuiltins x=some (.type bid)) (ha : SO X T Wx TT C a o)
  (hn : x≠"__name__":=by decide) (hdb : (x == ("__debug__" : Str))=false:=by decide)
  (he : starEach [a] X.env=(false,eval a X.env) :: starEach [] X.env:=by rfl) (hpl : (PySem.backTo pos (starEach [] X.env)).any (·.1)=false:=by rfl) : SE X T Wx TT C true (.Call (.Name x pn) [a] [] pos) (.prim p (o.cons .nil)):=by
 refine PE.wk (pe_callTy hc hg hm hv (pa_cons ha pa_nil he) hn hdb he hpl) fun σ H Q q=>?_
 exact ods1 (r:=fun x H Q=>C1 X T p [x] H Q) (fun _ _ _ z=>z) (fun x H Q ⟨W,a,v,wh,la,hp,k⟩=>⟨W,a,v,x,rfl,wh,la,hp,k⟩) q
theorem P2.kn {p : Prim} {x y : V} {Q : VK} (q : P2 X T p x y H Q) : C2 X T p [x,y] H Q:=by
 obtain ⟨W,a,b,v,wh,la,lb,hp,k⟩:=q
 exact ⟨W,a,b,v,x,y,rfl,wh,la,lb,hp,k⟩
theorem se_call2 {p : Prim} {o o' : Od} {x : Str} {bid : String} {pn : Pos} (hc : CallR X (.builtin bid) (C2 X T p)) (hg : Gl X x) (hm : X.mg x=none) (hv : bootBuiltins x=some (.builtin bid)) (ha : SO X T Wx TT C a o) (hb : SO X T Wx TT C b o')
  (hn : x≠"__name__":=by decide) (hdb : (x == ("__debug__" : Str))=false:=by decide)
  (he : starEach [a,b] X.env=(false,eval a X.env) :: starEach [b] X.env:=by rfl) (he2 : starEach [b] X.env=(false,eval b X.env) :: starEach [] X.env:=by rfl) (hpl : (PySem.backTo pos (starEach [b] X.env)).any (·.1)=false:=by rfl) :
  SE X T Wx TT C true (.Call (.Name x pn) [a,b] [] pos) (.prim p (o.cons (o'.cons .nil))):=by
 refine PE.wk (pe_callB hc hg hm hv (pa_cons ha (pa_cons hb pa_nil he2) he) hn hdb he hpl) fun σ H Q q=>?_
 exact ods2' (r:=fun x y H Q=>C2 X T p [x,y] H Q) (fun _ _ _ z=>z) (fun _ _ _ z=>z) (fun x y H Q q=>q.kn) q
theorem zgc {o : Od} {ty : Ty} {x : Str} {pn p2 : Pos} (hg : Gl X "isinstance") (hm : X.mg "isinstance" = none) (ha : SO X T Wx TT C a o) (hgx : Gl X x) (hmx : X.mg x=none) (hvx : bootBuiltins x=some (.type ty.name)) (hnx : x≠"__name__":=by decide) (hdx : (x == ("__debug__" : Str))=false:=by decide)
  (he : starEach [a,.Name x p2] X.env=(false,eval a X.env) :: starEach [.Name x p2] X.env:=by rfl) (he2 : starEach [.Name x p2] X.env=(false,eval (.Name x p2) X.env) :: starEach [] X.env:=by rfl) (hpl : (PySem.backTo pos (starEach [.Name x p2] X.env)).any (·.1)=false:=by rfl) :
  SE X T Wx TT C true (.Call (.Name "isinstance" pn) [a,.Name x p2] [] pos) (.prim (.isinst [ty]) (o.cons .nil)):=by
 refine PE.wk (pe_callB (id:="isinstance") (prim_isi1 (T:=T) ty) hg hm rfl (pa_cons ha (pa_cons (pe_bltn (v:=.ty ty.name) hgx hmx hvx rfl hnx hdx) pa_nil he2) he) (by decide) (by decide) he hpl) fun σ H Q q=>?_
 exact ods1 (r:=fun z H Q=>∃ W a v x,[z,V.ty ty.name] = [x,.ty ty.name]∧WH W H∧Lk (gl X T) W H a x∧za5 (.isinst [ty]) [a]=some v∧Kn X T W H v Q) (fun _ _ _ z=>z) (fun x H Q ⟨W,a,v,wh,la,hp,k⟩=>⟨W,a,v,x,rfl,wh,la,hp,k⟩) q
theorem Lk.ext {G : Glb} (e : Ext H H') {v : Val} {x : V} (l : Lk G W H v x) : Lk G W H' v x:=by
 cases v with
 | lst l' =>
  obtain ⟨p,vs,h1,h2,h3⟩:=l
  exact ⟨p,vs,h1,SqL.le e h2,h3⟩
 | dct l' =>
  obtain ⟨p,E,h1,h2,h3⟩:=l
  exact ⟨p,E,h1,Rd.le e h2,h3⟩
 | _=>exact l
inductive TyNs (X : Cx) : List Expr→List Ty→Prop
 | nil : TyNs X [] []
 | cons {x : Str} {p : Pos} {es : List Expr} {ty : Ty} {ts : List Ty} : Gl X x→X.mg x=none→bootBuiltins x=some (.type ty.name)→x≠"__name__"→(x == ("__debug__" : Str))=false →
   starEach (.Name x p :: es) X.env=(false,eval (.Name x p) X.env) :: starEach es X.env→TyNs X es ts→TyNs X (.Name x p :: es) (ty :: ts)
def tVs (vs : List V) : TA:=fun _ H Q=>Q vs H
theorem TyNs.pa {es : List Expr} {ts : List Ty} (q : TyNs X es ts) : PA X es (tVs (ts.map fun t=>V.ty t.name)):=by
 induction q with
 | nil=>exact pa_nil
 | cons a b c d e f g ih=>exact PA.wk (pa_cons (pe_bltn (v:=.ty _) a b c rfl d e) ih f) fun _ _ _ z=>z
theorem zqw {o : Od} {ts : List Ty} {es : List Expr} {pn p2 : Pos} {x1} (hg : Gl X "isinstance") (hm : X.mg "isinstance" = none) (ha : SO X T Wx TT C a o) (ht : TyNs X es ts) (hl : ts.length≤sizeLine)
  (he : starEach [a,.Tuple es x1 p2] X.env=(false,eval a X.env) :: starEach [.Tuple es x1 p2] X.env:=by rfl) (he2 : starEach [.Tuple es x1 p2] X.env=(false,eval (.Tuple es x1 p2) X.env) :: starEach [] X.env:=by rfl) (hpl : (PySem.backTo pos (starEach [.Tuple es x1 p2] X.env)).any (·.1)=false:=by rfl) :
  SE X T Wx TT C true (.Call (.Name "isinstance" pn) [a,.Tuple es x1 p2] [] pos) (.prim (.isinst ts) (o.cons .nil)):=by
 refine PE.wk (pe_callB (id:="isinstance") (prim_isiT (T:=T) ts) hg hm rfl (pa_cons ha (pa_cons (pe_tup ht.pa) pa_nil he2) he) (by decide) (by decide) he hpl) fun σ H Q q=>?_
 refine ods1 (r:=fun z H Q=>tTup (tVs (ts.map fun t=>V.ty t.name)) σ H fun y H1=>∃ W a v x tp,[z,y] = [x,.ref tp]∧H1 tp=some (.tup (ts.map fun t=>V.ty t.name))∧WH W H1∧Lk (gl X T) W H1 a x∧za5 (.isinst ts) [a]=some v∧Kn X T W H1 v Q) (fun _ _ _ z=>z) (fun x H Q q=>?_) q
 obtain ⟨W,a,v,wh,la,hp,k⟩:=q
 refine ⟨by rw [List.length_map]; exact hl,fun p hn=>⟨W,a,v,x,p,rfl,upd_same,wh.up (Ext.upd hn),la.ext (Ext.upd hn),hp,fun W' z H' e u w kz rr=>k W' z H' ((Ext.upd hn).trans e) u w (fun q hq=>kz q (by
  cases e2 : H q with
  | none=>exact absurd e2 hq
  | some o=>rw [Ext.upd hn q o e2]; exact nofun)) (ResR.dom (Ext.upd hn).dom rr)⟩⟩
theorem se_not {x : Exp} (ha : SE X T Wx TT C f a x) : SE X T Wx TT C false (.UnaryOp .Not a pos) (.not x):=by
 refine PE.wk (pe_notT (PE.un ha)) fun σ H Q q=>?_
 simp only [ev] at q
 obtain ⟨W,fr,h,r0,a⟩:=q
 refine ⟨W,fr,h,r0,?_⟩
 cases q1 : ev TT C x fr h with
 | stuck=>simp only [bnd,q1] at a; exact a.elim
 | exn c y fr1 h1=>simp only [bnd,q1] at a; exact a
 | ok v1 fr1 h1 =>
  simp only [bnd,q1] at a
  intro W1 y H1 ev1 r1 rr
  cases e : truthy v1 with
  | none=>simp only [opt,e] at a; exact a.elim
  | some k =>
   simp only [opt,e,rt] at a
   exact ⟨k,Lk.tru (WH.of r1) e (Lk.of (WH.of r1) rr),a W1 _ H1 ev1 r1 (Rp.bool _)⟩
end
end Fx
end
section
set_option maxHeartbeats 4000000
namespace Fx
open PySem PySem.Spec PyProof.Rows L2
section
variable {X : Cx} {T : Tb} {Wx : WX} {W W1 W' : Wd} {H H1 H' : Hp} {σ : St} {fr fr1 : Fr} {h h1 : MH} {e a b c : Expr} {pos : Pos} {t t' : TE} {TT : Tbl} {C : Callee} {f : Bool}

theorem After.mono {α β : Type} {G : Glb} {N : List Str} {ec : Ec} {Wx : WX} {ExR : Wd→Hp→Nat→Option Val→Value→Option Addr→Prop} {σ : L2.St} {Rel : Wd→Hp→α→β→Prop} {r : Res α} {Q Q' : β→Hp→Prop}
  (a : After G N ec Wx ExR σ Rel W H r Q) (k : ∀ b H,Q b H→Q' b H) : After G N ec Wx ExR σ Rel W H r Q':=by
 cases r with
 | ok v fr' h'=>exact fun W' b H' ev r' rl=>k _ _ (a W' b H' ev r' rl)
 | exn c x fr' h'=>exact a
 | stuck=>exact a
theorem bndE {α β γ δ : Type} {Rel : Wd→Hp→α→β→Prop} {Rel2 : Wd→Hp→γ→δ→Prop} {m : Fr→MH→Res α} {g : α→Fr→MH→Res γ} {Q : δ→Hp→Prop} {Q' : β→Hp→Prop} (a : AfX X T Wx σ Rel2 W H (bnd m g fr h) Q)
  (k : ∀ b H1 W1 v fr1 h1,Evo W H W1 H1→RX X T W1 H1 fr1 σ h1→Rel W1 H1 v b→AfX X T Wx σ Rel2 W1 H1 (g v fr1 h1) Q→Q' b H1) : AfX X T Wx σ Rel W H (m fr h) Q' :=
 (After.bnd a).mono fun b H1 ⟨W1,v,fr1,h1,ev,r1,rr,_,a1⟩=>k b H1 W1 v fr1 h1 ev r1 rr a1
noncomputable def mT (TT : Tbl) (C : Callee) (x : Exp) : Fr→MH→Res Bool:=bnd (ev TT C x) fun v=>opt (truthy v)
abbrev ST (X : Cx) (T : Tb) (Wx : WX) (TT : Tbl) (C : Callee) (e : Expr) (x : Exp) : Prop:=PT X e (tT X T Wx (mT TT C x))
theorem zmx {x y : Exp} {rest : List Expr} (ha : SE X T Wx TT C f a x) (hb : SE X T Wx TT C false (.BoolOp .And (b :: rest) pos) y) : SE X T Wx TT C false (.BoolOp .And (a :: b :: rest) pos) (.and x y):=by
 refine PE.wk (pe_andT (PE.un ha) hb) fun σ H Q q=>?_
 simp only [ev] at q
 obtain ⟨W,fr,h,r0,a⟩:=q
 refine ⟨W,fr,h,r0,bndE a fun y H1 W1 v fr1 h1 ev1 r1 rr a=>?_⟩
 cases e : truthy v with
 | none=>simp only [bnd,opt,e] at a; exact a.elim
 | some k =>
  simp only [bnd,opt,e] at a
  refine ⟨k,Lk.tru (WH.of r1) e (Lk.of (WH.of r1) rr),?_⟩
  cases k with
  | true=>exact ⟨W1,fr1,h1,r1,a⟩
  | false=>exact a W1 y H1 (Evo.refl _ _) r1 rr
theorem se_one {op} {x : Exp} (ha : SE X T Wx TT C f a x) : SE X T Wx TT C false (.BoolOp op [a] pos) x:=pe_one (PE.un ha)
theorem zf6 {x : Exp} (ha : SE X T Wx TT C f a x) (he : ∀ whole,isTrue a X.env whole=(do let v ← whole; standAt a.pos; holding [v] (PySem.truthy v)):=by intro _; rfl) : ST X T Wx TT C a x:=by
 refine PT.wk (pt_truth (PE.un ha) he) fun σ H Q q=>?_
 obtain ⟨W,fr,h,r0,a⟩:=q
 refine ⟨W,fr,h,r0,bndE a fun y H1 W1 v fr1 h1 ev1 r1 rr a=>?_⟩
 cases e : truthy v with
 | none=>simp only [opt,e] at a; exact a.elim
 | some k =>
  simp only [opt,e] at a
  exact ⟨k,Lk.tru (WH.of r1) e (Lk.of (WH.of r1) rr),a W1 k H1 (Evo.refl _ _) r1 rfl⟩
theorem mT_or {x y : Exp} : mT TT C (.or x y)=bnd (mT TT C x) fun t=>if t then rt true else mT TT C y:=by
 funext σ h
 simp only [mT,ev,bnd]
 cases ev TT C x σ h with
 | ok v fr1 h1 =>
  simp only [opt]
  cases e : truthy v with
  | none=>rfl
  | some k =>
   cases k with
   | true=>simp [rt,bnd,e]
   | false=>simp [rt,bnd,e]; cases ev TT C y fr1 h1 <;> rfl
 | exn=>rfl
 | stuck=>rfl
theorem mT_not {x : Exp} : mT TT C (.not x)=bnd (mT TT C x) fun t=>rt (!t):=by
 funext σ h
 simp only [mT,ev,bnd]
 cases ev TT C x σ h with
 | ok v fr1 h1 =>
  simp only [opt]
  cases e : truthy v with
  | none=>rfl
  | some k=>cases k <;> simp [rt,truthy]
 | exn=>rfl
 | stuck=>rfl
theorem st_not {x : Exp} (ha : ST X T Wx TT C a x) : ST X T Wx TT C (.UnaryOp .Not a pos) (.not x):=by
 refine PT.wk (pt_not ha) fun σ H Q q=>?_
 rw [mT_not] at q
 obtain ⟨W,fr,h,r0,a⟩:=q
 refine ⟨W,fr,h,r0,bndE a fun y H1 W1 v fr1 h1 ev1 r1 rr a=>?_⟩
 subst rr
 exact a W1 _ H1 (Evo.refl _ _) r1 rfl
abbrev SW (X : Cx) (T : Tb) (Wx : WX) (TT : Tbl) (C : Callee) (e : Expr) (x : Exp) : Prop:=PW X e (tT X T Wx (mT TT C x))
theorem pw_wk {t t' : L2.TT} (p : PW X e t) (w : ∀ σ H Q,t' σ H Q→t σ H Q) : PW X e t':=⟨fun wh pins s σ H Q I q=>p.run wh pins s σ H Q I (w σ H Q q)⟩
theorem sw_or1 {x : Exp} (ha : ST X T Wx TT C a x) : SW X T Wx TT C (.BoolOp .Or [a] pos) x:=pw_or1 ha
theorem sw_or {x y : Exp} {rest : List Expr} (ha : ST X T Wx TT C a x) (hb : SW X T Wx TT C (.BoolOp .Or (b :: rest) pos) y) : SW X T Wx TT C (.BoolOp .Or (a :: b :: rest) pos) (.or x y):=by
 refine pw_wk (pw_or ha hb) fun σ H Q q=>?_
 rw [mT_or] at q
 obtain ⟨W,fr,h,r0,a⟩:=q
 refine ⟨W,fr,h,r0,bndE a fun y H1 W1 v fr1 h1 ev1 r1 rr a=>?_⟩
 subst rr
 cases v with
 | false=>exact ⟨W1,fr1,h1,r1,a⟩
 | true=>exact a W1 _ H1 (Evo.refl _ _) r1 rfl
theorem st_w {x : Exp} (h : SW X T Wx TT C e x) : ST X T Wx TT C e x:=h.pt
def CmpB (p : Prim) : Prop:=∀ a b v,za5 p [a,b]=some v→∃ k,v = .bool k
theorem cb_ne : CmpB .ne:=fun a b v h=>by
 have h : (if isPD zaF a && isPD zaF b then some (Val.bool (!peq a b)) else if !zba a && slfV zaF a b then some (Val.bool false) else Option.none)=some v:=h
 split at h
 ·exact ⟨_,(Option.some.inj h).symm⟩
 ·split at h
  ·exact ⟨_,(Option.some.inj h).symm⟩
  ·cases h
theorem cb_lt : CmpB .lt:=fun a b v h=>by
 cases a <;> cases b <;> first | (cases h; done) | exact ⟨_,(Option.some.inj h).symm⟩
theorem cb_gt : CmpB .gt:=fun a b v h=>by
 cases a <;> cases b <;> first | (cases h; done) | exact ⟨_,(Option.some.inj h).symm⟩
theorem cb_ge : CmpB .ge:=fun a b v h=>by
 cases a <;> cases b <;> first | (cases h; done) | exact ⟨_,(Option.some.inj h).symm⟩
theorem fin_bool {p : Prim} {o1 o2 : OV} {fr fr1 : Fr} {h h1 : MH} {v : Val} (cb : CmpB p) (e : fin p [o1,o2] fr h = .ok v fr1 h1) : ∃ k,v = .bool k:=by
 unfold fin at e
 cases e1 : resolve o1 fr h with
 | none=>simp only [za9,e1,Option.bind_none] at e; cases e
 | some v1 =>
  cases e2 : resolve o2 fr h with
  | none=>simp only [za9,e1,e2,Option.bind_none,Option.bind_some,Option.map_none] at e; cases e
  | some v2 =>
   simp only [za9,e1,e2,Option.bind_some,Option.map_some] at e
   cases e3 : za5 p [v1,v2] with
   | none=>simp only [e3] at e; cases e
   | some v =>
    simp only [e3] at e
    obtain ⟨k,rfl⟩:=cb _ _ _ e3
    cases e
    exact ⟨k,rfl⟩
theorem cmp_bool {p : Prim} {o1 o2 : Od} {fr fr1 : Fr} {h h1 : MH} {v : Val} (cb : CmpB p) (e : ev TT C (.prim p (o1.cons (o2.cons .nil))) fr h = .ok v fr1 h1) : ∃ k,v = .bool k:=by
 simp only [ev,zeH,zdU,bnd] at e
 cases q1 : evod TT C o1 fr h with
 | ok w1 fr2 h2 =>
  simp only [q1] at e
  cases q2 : evod TT C o2 fr2 h2 with
  | ok w2 fr3 h3=>simp only [q2,rt] at e; exact fin_bool cb e
  | exn=>simp only [q2] at e; cases e
  | stuck=>simp only [q2] at e; cases e
 | exn=>simp only [q1] at e; cases e
 | stuck=>simp only [q1] at e; cases e
theorem tT_of {f : Bool} {x : Exp} (cb : ∀ fr h v fr1 h1,ev TT C x fr h = .ok v fr1 h1→∃ k,v = .bool k) {Q : Bool→Hp→Prop} (q : tT X T Wx (mT TT C x) σ H Q) : tE X T Wx f (ev TT C x) σ H fun z H'=>∃ k,z = .bl k∧Q k H':=by
 obtain ⟨W,fr,h,r0,a⟩:=q
 refine ⟨W,fr,h,r0,?_⟩
 have z:=After.bnd (Rel:=ResR (gl X T) f H) a
 refine z.mono fun y H1 ⟨W1,v,fr1,h1,ev1,r1,rr,e,a⟩=>?_
 obtain ⟨k,rfl⟩:=cb _ _ _ _ _ e
 have rr : Rp (gl X T) W1 (.bool k) y:=by cases f <;> exact rr
 exact ⟨k,Rp.boolI rr,a W1 k H1 (Evo.refl _ _) r1 rfl⟩
theorem zmv {op : CmpOp} {p : Prim} {o1 o2 : Od} (cb : CmpB p) (ho : OpR X (compareOp op) (P2 X T p)) (ha : SO X T Wx TT C a o1) (hb : SO X T Wx TT C b o2) (hm : behindInMarks op b=false) : ST X T Wx TT C (.Compare a [op] [b] pos) (.prim p (o1.cons (o2.cons .nil))):=by
 refine PT.wk (pt_cmpR ho ha hb hm) fun σ H Q q=>?_
 exact ods2' (fun _ _ _ z=>z) (fun _ _ _ z=>z) (fun _ _ _ _ z=>z) (tT_of (f:=true) (fun _ _ _ _ _=>cmp_bool cb) q)
theorem se_if {x y z : Exp} {f' : Bool} (hc : ST X T Wx TT C c z) (ha : SE X T Wx TT C f a x) (hb : SE X T Wx TT C f' b y) : SE X T Wx TT C false (.IfExp c a b pos) (.ifx z x y):=by
 refine PE.wk (pe_ifExp hc (PE.un ha) (PE.un hb)) fun σ H Q q=>?_
 simp only [ev] at q
 obtain ⟨W,fr,h,r0,a⟩:=q
 have a : AfX X T Wx σ (ResR (gl X T) false H) W H (bnd (mT TT C z) (fun t=>if t then ev TT C x else ev TT C y) fr h) Q:=by
  have e : (bnd (mT TT C z) (fun t=>if t then ev TT C x else ev TT C y) fr h)=bnd (ev TT C z) (fun v=>bnd (opt (truthy v)) fun t=>if t then ev TT C x else ev TT C y) fr h:=by
   simp only [mT,bnd]
   cases ev TT C z fr h <;> rfl
  rw [e]; exact a
 refine ⟨W,fr,h,r0,bndE a fun k H1 W1 v fr1 h1 ev1 r1 rr a=>?_⟩
 subst rr
 cases v with
 | true=>exact ⟨W1,fr1,h1,r1,a⟩
 | false=>exact ⟨W1,fr1,h1,r1,a⟩
end
end Fx
end
section
set_option maxHeartbeats 4000000
namespace Fx
open PySem PySem.Spec PyProof.Rows L2
section
variable {G : Glb} {W W' : Wd} {H : Hp}
theorem Ents.any {k : Val} {kk : Key} (hk : kyOf k=some kk) : ∀ {l : List (Val × Val)} {es : List (Key × V)},Ents G W l es→(l.any fun p=>peq p.1 k)=es.any fun p=>decide (p.1=kk)
 | _,_,.nil=>rfl
 | _,_,.cons h r t=>by
  rw [List.any_cons,List.any_cons,ky_peq h hk,Ents.any hk t]
theorem Ents.repl {k : Val} {kk : Key} (hk : kyOf k=some kk) {v : Val} {x : V} (rv : Rp G W v x) : ∀ {l : List (Val × Val)} {es : List (Key × V)},Ents G W l es→Ents G W (l.map fun p=>if peq p.1 k then (p.1,v) else p) (es.map fun p=>if p.1=kk then (p.1,x) else p)
 | _,_,.nil=>.nil
 | _,_,.cons (k:=k') (kk:=kk') h r t=>by
  rw [List.map_cons,List.map_cons]
  have e:=ky_peq h hk
  by_cases q : kk' = kk
  ·rw [decide_eq_true q] at e
   rw [if_pos (show peq k' k=true from e),if_pos q]
   exact .cons h rv (Ents.repl hk rv t)
  ·rw [decide_eq_false q] at e
   rw [if_neg (show ¬ peq k' k=true from by rw [e]; exact Bool.false_ne_true),if_neg q]
   exact .cons h r (Ents.repl hk rv t)
theorem Ents.snoc {k : Val} {kk : Key} (hk : kyOf k=some kk) {v : Val} {x : V} (rv : Rp G W v x) : ∀ {l : List (Val × Val)} {es : List (Key × V)},Ents G W l es→Ents G W (l ++ [(k,v)]) (es ++ [(kk,x)])
 | _,_,.nil=>.cons hk rv .nil
 | _,_,.cons h r t=>.cons h r (Ents.snoc hk rv t)
theorem Ents.put {k : Val} {kk : Key} (hk : kyOf k=some kk) {v : Val} {x : V} (rv : Rp G W v x) {l : List (Val × Val)} {es : List (Key × V)} (r : Ents G W l es) : Ents G W (dput l k v) (putK es kk x):=by
 unfold dput putK
 rw [r.any hk]
 by_cases q : (es.any fun p=>decide (p.1=kk))=true
 ·rw [if_pos q,if_pos q]; exact r.repl hk rv
 ·rw [if_neg q,if_neg q]; exact r.snoc hk rv
theorem Ents.puts : ∀ {r : List (Val × Val)} {rs : List (Key × V)} {l : List (Val × Val)} {es : List (Key × V)},Ents G W r rs→Ents G W l es→Ents G W (zpT l r) (mergeK es rs)
 | _,_,_,_,.nil,s=>s
 | _,_,_,_,.cons h r t,s=>by
  have z:=Ents.puts t (s.put h r)
  exact z
theorem OR.some_of {v : Val} {o : Option V} (r : OR G W (some v) o) : ∃ x,o=some x∧Rp G W v x:=by
 cases o with
 | none=>exact r.elim
 | some x=>exact ⟨x,rfl,r⟩
theorem OR.isSome {a : Option Val} {o : Option V} (r : OR G W a o) : a.isSome=o.isSome:=by
 cases a <;> cases o <;> first | rfl | exact r.elim
theorem OR.getD {a : Option Val} {o : Option V} {d : Val} {x : V} (r : OR G W a o) (rd : Rp G W d x) : Rp G W (a.getD d) (o.getD x):=by
 cases a <;> cases o <;> first | exact rd | exact r | exact r.elim
theorem dOk_ky {l : List (Val × Val)} {k : Val} (h : dOk l k=true) : isKs k=true:=by
 unfold dOk at h
 exact (Bool.and_eq_true_iff.mp h).1
mutual
theorem kyn_peq : ∀ (a b : Val) (ka kb : NestedKey),kyN a=some ka→kyN b=some kb→peq a b=NestedKey.beq ka kb
 | .none,b,ka,kb,ha,hb=>by
  cases ha
  cases b with
  | none=>cases hb; rfl
  | bool j=>cases hb; rfl
  | int j=>cases hb; rfl
  | str j=>cases hb; rfl
  | tup bt l=>obtain ⟨ks,_,rfl⟩:=Option.map_eq_some_iff.mp hb; rfl
  | _=>cases hb
 | .bool i,b,ka,kb,ha,hb=>by
  cases ha
  cases b with
  | none=>cases hb; rfl
  | bool j=>cases hb; cases i <;> cases j <;> rfl
  | int j=>cases hb; cases i <;> rfl
  | str j=>cases hb; rfl
  | tup bt l=>obtain ⟨ks,_,rfl⟩:=Option.map_eq_some_iff.mp hb; rfl
  | _=>cases hb
 | .int i,b,ka,kb,ha,hb=>by
  cases ha
  cases b with
  | none=>cases hb; rfl
  | bool j=>cases hb; cases j <;> rfl
  | int j=>cases hb; rfl
  | str j=>cases hb; rfl
  | tup bt l=>obtain ⟨ks,_,rfl⟩:=Option.map_eq_some_iff.mp hb; rfl
  | _=>cases hb
 | .str i,b,ka,kb,ha,hb=>by
  cases ha
  cases b with
  | none=>cases hb; rfl
  | bool j=>cases hb; rfl
  | int j=>cases hb; rfl
  | str j=>cases hb; rfl
  | tup bt l=>obtain ⟨ks,_,rfl⟩:=Option.map_eq_some_iff.mp hb; rfl
  | _=>cases hb
 | .tup bt l,b,ka,kb,ha,hb=>by
  obtain ⟨ks,hks,rfl⟩:=Option.map_eq_some_iff.mp ha
  cases b with
  | none=>cases hb; rfl
  | bool j=>cases hb; rfl
  | int j=>cases hb; rfl
  | str j=>cases hb; rfl
  | tup bt' l' =>
   obtain ⟨ks',hks',rfl⟩:=Option.map_eq_some_iff.mp hb
   simp only [peq,NestedKey.beq]
   exact kyn_peqs l l' ks ks' hks hks'
  | _=>cases hb
 | .lst _,_,_,_,ha,_=>by cases ha
 | .dct _,_,_,_,ha,_=>by cases ha
 | .ref _,_,_,_,ha,_=>by cases ha
 | .fn _,_,_,_,ha,_=>by cases ha
 | .clo _ _,_,_,_,ha,_=>by cases ha
 | .exc _ _ _,_,_,_,ha,_=>by cases ha
theorem kyn_peqs : ∀ (as bs : List Val) (ka kb : List NestedKey),kyNs as=some ka→kyNs bs=some kb→peqs as bs=NestedKey.beqAll ka kb
 | [],[],_,_,ha,hb=>by cases ha; cases hb; rfl
 | [],b :: bs,_,_,ha,hb=>by
  cases ha
  simp only [kyNs] at hb
  split at hb
  ·cases hb; rfl
  ·cases hb
 | a :: as,[],_,_,ha,hb=>by
  cases hb
  simp only [kyNs] at ha
  split at ha
  ·cases ha; rfl
  ·cases ha
 | a :: as,b :: bs,_,_,ha,hb=>by
  simp only [kyNs] at ha hb
  split at ha
  ·rename_i k ks e1 e2
   cases ha
   split at hb
   ·rename_i k' ks' e3 e4
    cases hb
    simp only [peqs,NestedKey.beqAll]
    rw [kyn_peq a b k k' e1 e3,kyn_peqs as bs ks ks' e2 e4]
   ·cases hb
  ·cases ha
end
theorem kyn_eq {a b : Val} {ka kb : NestedKey} (ha : kyN a=some ka) (hb : kyN b=some kb) : peq a b=decide (ka=kb):=by
 rw [NestedKey.decide_eq]; exact kyn_peq a b ka kb ha hb
mutual
theorem zpH : ∀ (n : Nat) (k : Val),isKey n k=true→∃ kk,kyN k=some kk∧kk.depth≤n
 | n,.none,_=>⟨_,rfl,Nat.zero_le _⟩
 | n,.bool _,_=>⟨_,rfl,Nat.zero_le _⟩
 | n,.int _,_=>⟨_,rfl,Nat.zero_le _⟩
 | n,.str _,_=>⟨_,rfl,Nat.zero_le _⟩
 | 0,.tup _ _,h=>by simp [isKey] at h
 | n + 1,.tup _ l,h=>by
  obtain ⟨ks,e,d⟩:=zmV n l (by simpa [isKey] using h)
  exact ⟨.tup ks,by simp only [kyN,e,Option.map_some],by simp only [NestedKey.depth]; omega⟩
 | n,.lst _,h=>by cases n <;> simp [isKey] at h
 | n,.dct _,h=>by cases n <;> simp [isKey] at h
 | n,.ref _,h=>by cases n <;> simp [isKey] at h
 | n,.fn _,h=>by cases n <;> simp [isKey] at h
 | n,.clo _ _,h=>by cases n <;> simp [isKey] at h
 | n,.exc _ _ _,h=>by cases n <;> simp [isKey] at h
theorem zmV : ∀ (n : Nat) (l : List Val),isKeys n l=true→∃ ks,kyNs l=some ks∧NestedKey.depthAll ks≤n
 | n,[],_=>⟨[],rfl,Nat.zero_le _⟩
 | n,a :: as,h=>by
  simp only [isKeys,Bool.and_eq_true_iff] at h
  obtain ⟨k,e1,d1⟩:=zpH n a h.1
  obtain ⟨ks,e2,d2⟩:=zmV n as h.2
  exact ⟨k :: ks,by simp only [kyNs,e1,e2],by simp only [NestedKey.depthAll]; omega⟩
end
theorem znV {k : Val} (h : isKn k=true) : ∃ kk,kyN k=some kk∧kk.depth≤8:=zpH kMax k (Bool.and_eq_true_iff.mp h).2
theorem zjB {k : Val} (h : isKn k=true) : ∃ b l,k = .tup b l:=by
 have:=(Bool.and_eq_true_iff.mp h).1
 cases k with
 | tup b l=>exact ⟨b,l,rfl⟩
 | _=>cases this
mutual
theorem nk_rp : ∀ (k : Val) (kk : NestedKey) (x : V),kyN k=some kk→Rp G W k x→NK G.K W.Z kk x
 | .none,_,_,h,r=>by cases h; cases r; exact .none
 | .bool _,_,_,h,r=>by cases h; cases r; exact .bool _
 | .int _,_,_,h,r=>by cases h; cases r; exact .int _
 | .str _,_,_,h,r=>by cases h; cases r; exact .text _
 | .tup _ l,_,_,h,r=>by
  obtain ⟨ks,e,rfl⟩:=Option.map_eq_some_iff.mp h
  cases r with
  | tup sq rs _=>exact .tup sq (nks_rp l ks _ e rs)
 | .lst _,_,_,h,_=>by cases h
 | .dct _,_,_,h,_=>by cases h
 | .ref _,_,_,h,_=>by cases h
 | .fn _,_,_,h,_=>by cases h
 | .clo _ _,_,_,h,_=>by cases h
 | .exc _ _ _,_,_,h,_=>by cases h
theorem nks_rp : ∀ (l : List Val) (ks : List NestedKey) (xs : List V),kyNs l=some ks→Rps G W l xs→NKs G.K W.Z ks xs
 | [],_,_,h,r=>by cases h; cases r; exact .nil
 | a :: as,_,_,h,r=>by
  simp only [kyNs] at h
  split at h
  ·rename_i k ks e1 e2
   cases h
   cases r with
   | cons r1 r2=>exact .cons (nk_rp a k _ e1 r1) (nks_rp as ks _ e2 r2)
  ·cases h
end
mutual
theorem NK.le {K : PySem.W.Frag} {Z H : Hp} (h : ∀ p o,Z p=some o→Rd H p o∧∀ od u,o≠.frz od u) : ∀ {k : NestedKey} {x : V},NK K Z k x→NK K H k x
 | _,_,.none=>.none
 | _,_,.bool b=>.bool b
 | _,_,.int i=>.int i
 | _,_,.text x=>.text x
 | _,_,.tup rd ks=>.tup (SqT.le' h rd) (NKs.le h ks)
theorem NKs.le {K : PySem.W.Frag} {Z H : Hp} (h : ∀ p o,Z p=some o→Rd H p o∧∀ od u,o≠.frz od u) : ∀ {ks : List NestedKey} {xs : List V},NKs K Z ks xs→NKs K H ks xs
 | _,_,.nil=>.nil
 | _,_,.cons a b=>.cons (NK.le h a) (NKs.le h b)
end
theorem zcY.length : ∀ {l : List (Val × Val)} {es : List NE},zcY G W l es→l.length=es.length
 | _,_,.nil=>rfl
 | _,_,.cons _ _ _ _ t=>by simp [zcY.length t]
theorem zcY.get {k : Val} {kk : NestedKey} (hk : kyN k=some kk) : ∀ {l : List (Val × Val)} {es : List NE},zcY G W l es→OR G W (dget l k) (atN es kk)
 | _,_,.nil=>trivial
 | _,_,.cons (k:=k') (kk:=kk') h _ _ r t=>by
  have e:=kyn_eq h hk
  unfold dget atN
  simp only [List.find?_cons]
  rw [e]
  by_cases q : kk' = kk
  ·rw [decide_eq_true q]; exact r
  ·rw [decide_eq_false q]; exact zcY.get hk t
theorem zcY.keys {l : List (Val × Val)} {es : List NE} (r : zcY G W l es) (h : ∀ p o,W.Z p=some o→Rd H p o∧∀ od u,o≠.frz od u) : zq3 G.K H es:=by
 induction l generalizing es with
 | nil=>cases r; exact fun e he=>nomatch he
 | cons p l ih =>
  cases r with
  | cons h0 hk h1 h2 t =>
   intro e he
   rcases List.mem_cons.mp he with rfl | he
   ·obtain ⟨kk,e1,d⟩:=znV hk
    rw [h0] at e1; cases e1
    exact ⟨NK.le h (nk_rp _ _ _ h0 h1),d⟩
   ·exact ih t e he
theorem zcY.put {k : Val} {kk : NestedKey} {a : Addr} (hk : kyN k=some kk) (hn : isKn k=true) (rk : Rp G W k (.ref a)) {v : Val} {x : V} (rv : Rp G W v x) {l : List (Val × Val)} {es : List NE} (r : zcY G W l es) : zcY G W (dput l k v) (putN es kk a x):=by
 have any : (l.any fun p=>peq p.1 k)=(atN es kk).isSome:=by
  have g:=zcY.get hk r
  have : (dget l k).isSome=(atN es kk).isSome:=g.isSome
  rw [← this]
  unfold dget
  rw [Option.isSome_map,Bool.eq_iff_iff,List.any_eq_true,List.find?_isSome]
 unfold dput putN
 rw [any]
 split
 ·clear any
  rename_i z
  clear z
  induction l generalizing es with
  | nil=>cases r; exact .nil
  | cons p l ih =>
   cases r with
   | @cons _ _ kk' a' vx _ es' h0 hk' h1 h2 t =>
    rw [List.map_cons,List.map_cons]
    dsimp only
    rw [kyn_eq h0 hk]
    by_cases q : kk' = kk
    ·rw [decide_eq_true q,if_pos rfl,if_pos q]; exact .cons h0 hk' h1 rv (ih t)
    ·rw [decide_eq_false q,if_neg Bool.false_ne_true,if_neg q]; exact .cons h0 hk' h1 h2 (ih t)
 ·clear any
  rename_i z
  clear z
  induction l generalizing es with
  | nil=>cases r; exact .cons hk hn rk rv .nil
  | cons p l ih =>
   cases r with
   | cons h0 hk' h1 h2 t=>exact .cons h0 hk' h1 h2 (ih t)
theorem zcY.puts {r : List (Val × Val)} : ∀ {rs : List NE} {l : List (Val × Val)} {es : List NE},zcY G W r rs→zcY G W l es→zcY G W (zpT l r) (mergeN es rs):=by
 induction r with
 | nil=>intro rs l es q e; cases q; exact e
 | cons p r ih =>
  intro rs l es q e
  cases q with
  | cons h0 hk h1 h2 t =>
   have z:=ih t (e.put h0 hk h1 h2)
   exact z
theorem putN_ne {es : List NE} {k : NestedKey} {a : Addr} {y : V} : putN es k a y≠[]:=by
 unfold putN
 split
 ·rename_i h
  intro z
  rw [List.map_eq_nil_iff] at z
  rw [z] at h; cases h
 ·intro z; simp at z
theorem DctR.n {p : Addr} {l : List (Val × Val)} {o : HO} (r : DctR G W p l o) (hl : (l.all fun q=>isKn q.1)=true) : ∃ es,zcY G W l es∧((es = []∧o = .dK [])∨o=dN G.P G.w p es):=by
 cases r with
 | nest _ e=>exact ⟨_,e,.inr rfl⟩
 | flat e =>
  cases e with
  | nil=>exact ⟨[],.nil,.inl ⟨rfl,rfl⟩⟩
  | cons h0 _ _ =>
   exfalso
   rw [List.all_cons,Bool.and_eq_true_iff] at hl
   obtain ⟨b,m,e⟩:=zjB hl.1
   dsimp only at e
   rw [e] at h0; cases h0
theorem DctR.f {p : Addr} {l : List (Val × Val)} {o : HO} (r : DctR G W p l o) (hl : (l.all fun q=>isKs q.1)=true) : ∃ kvs,o = .dK kvs∧Ents G W l kvs:=by
 cases r with
 | flat e=>exact ⟨_,rfl,e⟩
 | nest n e =>
  exfalso
  cases e with
  | nil=>exact n rfl
  | cons _ hk _ _ _ =>
   rw [List.all_cons,Bool.and_eq_true_iff] at hl
   obtain ⟨b,m,e⟩:=zjB hk
   rw [e] at hl; cases hl.1
theorem dOk_all {l : List (Val × Val)} {k : Val} (h : dOk l k=true) : (l.all fun q=>isKs q.1)=true:=(Bool.and_eq_true_iff.mp h).2
end

section
variable {X : Cx} {T : Tb} {Wx : WX} {W W1 W' : Wd} {H H1 H' : Hp} {σ : St} {fr fr1 : Fr} {h h1 : MH} {e a b c : Expr} {pos : Pos} {t t' : TE} {TT : Tbl} {C : Callee} {f : Bool}
theorem dgetR (wh : WH W H) {l : List (Val × Val)} {k : Val} {x y : V} (hd : dOk l k=true) (lk : Lk (gl X T) W H (.dct l) x) (lr : Lk (gl X T) W H k y) : ∃ p o,x = .ref p∧DGet H p y o∧OR (gl X T) W (dget l k) o:=by
 obtain ⟨p,o,rfl,rd,en⟩:=lk
 obtain ⟨kvs,rfl,en'⟩:=en.f (dOk_all hd)
 obtain ⟨kk,hk⟩:=isKs_ky (dOk_ky hd)
 have lr : Rp (gl X T) W k y:=by
  have:=dOk_ky hd
  cases k with
  | int i=>exact lr
  | str i=>exact lr
  | _=>cases this
 exact ⟨p,_,rfl,.inl ⟨kvs,kk,rd,ky_rp hk lr,rfl⟩,Ents.get hk en'⟩
theorem hu1 {n : Nat} (h : n + 9 < cLine) : n + 1 < cLine:=by omega
theorem dgetN (wh : WH W H) {l : List (Val × Val)} {k : Val} {x y : V} (hd : dOkN l k=true) (lk : Lk (gl X T) W H (.dct l) y) (lr : Lk (gl X T) W H k x) : ∃ es kk,KeyAsk X H x y es kk∧OR (gl X T) W (dget l k) (atN es kk):=by
 obtain ⟨p,o,rfl,rd,en⟩:=lk
 obtain ⟨hk,hl⟩:=Bool.and_eq_true_iff.mp hd
 obtain ⟨es,en',ho⟩:=en.n hl
 obtain ⟨kk,hkk,dp⟩:=znV hk
 obtain ⟨b,m,rfl⟩:=zjB hk
 obtain ⟨ap,vs,rfl,sq,rp⟩:=Rp.tupI wh lr
 have nk : NK X.K H kk (.ref ap):=by
  obtain ⟨ks,e,rfl⟩:=Option.map_eq_some_iff.mp hkk
  exact .tup sq (NKs.le wh.zin (nks_rp m ks vs e rp))
 refine ⟨es,kk,⟨p,ap,rfl,rfl,?_,en'.keys wh.zin,nk,dp⟩,en'.get hkk⟩
 rcases ho with ⟨rfl,rfl⟩ | rfl
 ·exact .inl ⟨rfl,rd⟩
 ·exact .inr rd
theorem dOkA_or {l : List (Val × Val)} {k : Val} (h : dOkA l k=true) : dOk l k=true∨dOkN l k=true:=Bool.or_eq_true_iff.mp h
def I2d (X : Cx) (T : Tb) : R2:=fun x y H Q=>∃ W l b v,WH W H∧Lk (gl X T) W H (.dct l) x∧Lk (gl X T) W H b y∧za5 .item [.dct l,b]=some v∧∀ z,Rp (gl X T) W v z→Q z H
theorem prim_itemD (hu : X.A.units + 9 < cLine) : IxR X (I2d X T):=by
 intro value slice pins s σ H x y v u Q I rx ry ⟨W,l,b,w,wh,la,lb,hp,k⟩ hs
 have hp : (if dOkA l b then dget l b else Option.none)=some w:=by cases b <;> exact hp
 by_cases q : dOkA l b=true
 ·rw [if_pos q] at hp
  rcases dOkA_or q with q | q
  ·obtain ⟨p,o,rfl,g,r⟩:=dgetR wh q la lb
   rw [hp] at r
   obtain ⟨x1,rfl,rx1⟩:=r.some_of
   obtain rfl : v=Value.ref p:=rx
   exact tail_any (dict_typeIs I g) PySem.F.slot_dict_getitem.lookup (d_getItem (hu1 hu) I g ry fun w' s' I' rw'=>⟨x1,H,I',rw',k x1 rx1⟩) hs
  ·obtain ⟨es,kk,ask,r⟩:=dgetN wh q la lb
   rw [hp] at r
   obtain ⟨x1,e1,rx1⟩:=r.some_of
   obtain ⟨d,ap,rfl,rfl,isn,ks,nk,dp⟩:=id ask
   obtain rfl : v=Value.ref d:=rx
   obtain ⟨_,_,vs,_,dd⟩:=isn_of I isn ks
   exact tail_any dd.typeIs PySem.F.slot_dict_getitem.lookup (op_subN hu pins s σ H _ _ _ _ Q I (show RelV (.ref d) (Value.ref d) from rfl) ry ⟨es,kk,x1,ask,e1,k x1 rx1⟩) hs
 ·rw [if_neg q] at hp; cases hp
def I3 (X : Cx) (T : Tb) : R2:=fun x y H Q=>∃ W a b v,WH W H∧Lk (gl X T) W H a x∧Lk (gl X T) W H b y∧za5 .item [a,b]=some v∧∀ z,Rp (gl X T) W v z→Q z H
theorem prim_itemA (hu : X.A.units + 9 < cLine) : IxR X (I3 X T):=by
 intro value slice pins s σ H x y v u Q I rx ry ⟨W,a,b,w,wh,la,lb,hp,k⟩ hs
 cases a with
 | dct l=>exact prim_itemD hu value slice pins s σ H x y v u Q I rx ry ⟨W,l,b,w,wh,la,lb,hp,k⟩ hs
 | _=>exact prim_item value slice pins s σ H x y v u Q I rx ry ⟨W,_,b,w,wh,la,lb,(fun _=>nofun),hp,k⟩ hs
theorem fin2r {p : Prim} {o1 o2 : OV} {x y : V} {Q : VK} {H0 : Hp} (r : RX X T W H fr σ h) (q1 : OvR X T σ W H o1 x) (q2 : OvR X T σ W H o2 y)
  (a : AfX X T Wx σ (ResR (gl X T) false H0) W H (fin p [o1,o2] fr h) Q) : ∃ W a b v,WH W H∧Lk (gl X T) W H a x∧Lk (gl X T) W H b y∧za5 p [a,b]=some v∧∀ z,Rp (gl X T) W v z→Q z H:=by
 unfold fin at a
 cases e1 : resolve o1 fr h with
 | none=>simp only [za9,e1,Option.bind_none] at a; exact a.elim
 | some v1 =>
  cases e2 : resolve o2 fr h with
  | none=>simp only [za9,e1,e2,Option.bind_none,Option.bind_some,Option.map_none] at a; exact a.elim
  | some v2 =>
   simp only [za9,e1,e2,Option.bind_some,Option.map_some] at a
   cases e3 : za5 p [v1,v2] with
   | none=>simp only [e3] at a; exact a.elim
   | some v =>
    simp only [e3] at a
    exact ⟨W,v1,v2,v,WH.of r,zdf r q1 e1,zdf r q2 e2,e3,fun z rz=>a W z H (Evo.refl _ _) r rz⟩
theorem zdO {o1 o2 : Od} (hu : X.A.units + 9 < cLine) (ha : SO X T Wx TT C a o1) (hb : SO X T Wx TT C b o2) (hs : PlainIx b) : SE X T Wx TT C false (.Subscript a b pos) (.prim .item (o1.cons (o2.cons .nil))):=by
 refine PE.wk (pe_ix (prim_itemA (T:=T) hu) ha hb hs) fun σ H Q q=>?_
 simp only [ev,zeH,zdU] at q
 obtain ⟨W,fr,h,r0,a⟩:=q
 have a' : AfX X T Wx σ (ResR (gl X T) false H) W H (bnd (evod TT C o1) (fun o=>bnd (evod TT C o2) fun o'=>fin .item [o,o']) fr h) Q:=by
  have e : bnd (bnd (evod TT C o1) fun o=>bnd (bnd (evod TT C o2) fun o'=>bnd (rt []) fun vs=>rt (o' :: vs)) fun vs=>rt (o :: vs)) (fin .item) fr h=bnd (evod TT C o1) (fun o=>bnd (evod TT C o2) fun o'=>fin .item [o,o']) fr h:=by
   simp only [bnd,rt]
   cases evod TT C o1 fr h with
   | ok v1 fr1 h1 =>
    dsimp only
    cases evod TT C o2 fr1 h1 <;> rfl
   | exn=>rfl
   | stuck=>rfl
  rw [← e]; exact a
 refine ⟨W,fr,h,r0,bndE a' fun x H1 W1 v1 fr1 h1 ev1 r1 ov1 a=>⟨W1,fr1,h1,r1,bndE a fun y H2 W2 v2 fr2 h2 ev2 r2 ov2 a=>?_⟩⟩
 exact fin2r r2 (OvR.evo ev2 ov1) ov2 a
end
end Fx
end
section
set_option maxHeartbeats 4000000
namespace Fx
open PySem PySem.Spec PyProof.Rows L2
def Wd.leak (W : Wd) (H : Hp) (q : Addr) : Wd:={ W with Z:=fun p=>if p=q then H q else W.Z p,own:=fun p=>if p=q then none else W.own p }
section
variable {G : Glb} {W W' : Wd} {H : Hp} {N : List Str} {ec : Ec} {fr : Fr} {σ : L2.St} {h : MH} {q : Addr}
theorem leak_Z {o : HO} (e : H q=some o) : (W.leak H q).Z q=some o:=by
 show (if q=q then H q else W.Z q)=some o
 rw [if_pos rfl]; exact e
theorem zia (n : W.Z q=none) : Wle W (W.leak H q):=by
 refine ⟨fun p o z=>?_,fun _ _ h=>h,fun _ _ h=>h,fun _ _ h=>h,fun _ _ _ h=>h,fun _ _=>Iff.rfl,fun _ _ h=>h⟩
 show (if p=q then H q else W.Z p)=some o
 rw [if_neg (fun e=>by rw [e,n] at z; cases z)]
 exact z
theorem zfF {p : Addr} {r : zaB} (h : (W.leak H q).own p=some r) : p≠q∧W.own p=some r:=by
 have h : (if p=q then none else W.own p)=some r:=h
 by_cases e : p=q
 ·rw [if_pos e] at h; cases h
 ·rw [if_neg e] at h; exact ⟨e,h⟩
theorem zcP {p : Addr} {r : Option zaB} (h : W.own p=r) (e : p≠q) : (W.leak H q).own p=r:=by
 show (if p=q then none else W.own p)=r
 rw [if_neg e]; exact h
theorem leak_rp {v : Val} (n : W.Z q=none) (c : Cur G W H v q) : Rp G (W.leak H q) v (.ref q):=by
 cases v with
 | lst l=>obtain ⟨vs,a,b⟩:=c; exact .lst (.inl (.inl (leak_Z a))) (b.le (zia n))
 | dct l=>obtain ⟨vs,a,b⟩:=c; exact .dct (.inl (leak_Z a)) (b.le (zia n))
 | _=>exact c.elim
theorem leak_evo (n : W.Z q=none) {r : zaB} (o : W.own q=some r) : Evo W H (W.leak H q) H:=by
 refine ⟨zia n,fun p o' hp _ no=>⟨hp,?_⟩,fun p o' hp z no=>?_,fun _ _ h=>h,fun a f p _ h=>(zfF h).2,fun _ h=>h,fun p _ r r' _ a b=>by have:=(zfF b).2; rw [a] at this; cases this; rfl,fun p _ _ n=>?_⟩
 ·exact zcP no (fun e=>by rw [e,o] at no; cases no)
 ·show (if p=q then H q else W.Z p)=none
  rw [if_neg (fun e=>by rw [e,o] at no; cases no)]
  exact z
 ·show (if p=q then none else W.own p)=none
  by_cases e : p=q
  ·rw [if_pos e]
  ·rw [if_neg e]; exact n
theorem HpR.zown (r : HpR G W H fr σ h) {o : zaB} (e : W.own q=some o) : W.Z q=none:=by
 cases z : W.Z q with
 | none=>rfl
 | some u=>have:=(r.zin q u z).no; rw [e] at this; cases this
theorem leak_zin (r : HpR G W H fr σ h) (nf : ∀ u od w,H q=some u→u≠.frz od w) : ∀ p o,(W.leak H q).Z p=some o→ZinR H (W.leak H q) p o:=by
 intro p o z
 have z : (if p=q then H q else W.Z p)=some o:=z
 by_cases e : p=q
 ·rw [if_pos e] at z
  refine ⟨.inl (by rw [e]; exact z),?_,fun od v=>nf o od v z,fun _ _ _=>by rw [e]; exact z⟩
  show (if p=q then none else W.own p)=none
  rw [if_pos e]
 ·rw [if_neg e] at z
  exact ⟨(r.zin p o z).rd,zcP (r.zin p o z).no e,(r.zin p o z).nf,(r.zin p o z).ls⟩
theorem zbO.leak (n : W.Z q=none) {i : Nat} {s : Slot} (hs : W.own q≠some (.slot i)) (hs2 : W.own q≠some (.sub i)) (c : zbO G W H N ec σ i s) : zbO G (W.leak H q) H N ec σ i s:=by
 have le:=zia (H:=H) n
 cases s with
 | un=>trivial
 | val v=>obtain ⟨x,a,b⟩:=c; exact ⟨x,a,b.le le⟩
 | own v=>obtain ⟨p,a,b,d⟩:=c; exact ⟨p,a,zcP b (fun e=>hs (by rw [← e]; exact b)),d.up le⟩
 | own2 v =>
  obtain ⟨p,a,b,d⟩:=c
  refine ⟨p,a,zcP b (fun e=>hs (by rw [← e]; exact b)),?_⟩
  cases v with
  | lst l =>
   obtain ⟨qs,h1,h2,h3⟩:=d
   exact ⟨qs,h1,h2,Paired.imp2 (fun _ p z=>⟨zcP z.1 (fun e=>hs2 (by rw [← e]; exact z.1)),z.2.up le⟩) h3⟩
  | _=>exact d
 | cell c'=>exact c
 | exc c' v=>obtain ⟨x,a,b⟩:=c; exact ⟨x,a,b.le le⟩
theorem FldR.leak (n : W.Z q=none) {a f : Nat} {vs : List (Str × V)} {s : Slot} (hs : W.own q≠some (.fld a f)) (c : FldR G W H a f vs s) : FldR G (W.leak H q) H a f vs s:=by
 have le:=zia (H:=H) n
 cases s with
 | val v=>obtain ⟨x,a,b⟩:=c; exact ⟨x,a,b.le le⟩
 | own v=>obtain ⟨p,a,b,d⟩:=c; exact ⟨p,a,zcP b (fun e=>hs (by rw [← e]; exact b)),d.up le⟩
 | _=>exact c
theorem zo9 (le : Wle W W') {σ' : L2.St} {fr' : Fr} (hc : ∀ c v,h.cells[c]? = some (some v)→(∃ (i : Nat) (x : V),fr[i]? = some (Slot.cell c)∧σ[i]? = some (some x)∧Rp G W v x) ∨
  ((∀ i : Nat,fr[i]?≠some (Slot.cell c))∧∃ a x u,W.κ[c]? = some a∧H a=some (zbk a u)∧RelC x u∧Rp G W v x)) :
  ∀ c v,h.cells[c]? = some (some v)→(∃ (i : Nat) (x : V),fr[i]? = some (Slot.cell c)∧σ[i]? = some (some x)∧Rp G W' v x) ∨
  ((∀ i : Nat,fr[i]?≠some (Slot.cell c))∧∃ a x u,W'.κ[c]? = some a∧H a=some (zbk a u)∧RelC x u∧Rp G W' v x):=by
 intro c v e
 rcases hc c v e with ⟨i,x,h1,h2,h3⟩ | ⟨h1,a,x,u,h2,h3,h4,h5⟩
 ·exact .inl ⟨i,x,h1,h2,h3.le le⟩
 ·exact .inr ⟨h1,a,x,u,le.κ _ _ h2,h3,h4,h5.le le⟩
theorem zh1 (fs : List (Nat × Slot)) (f g : Nat) (s : Slot) : zkD (zoW fs f s) g=if g=f then some s else zkD fs g:=by
 unfold zkD
 induction fs with
 | nil =>
  unfold zoW
  by_cases e : g=f
  ·simp [e]
  ·have : (g == f)=false:=by simpa using e
   simp [List.lookup,this,e]
 | cons p r ih =>
  obtain ⟨k,t⟩:=p
  unfold zoW
  by_cases e : k=f
  ·rw [if_pos e]
   by_cases e2 : g=f
   ·have : (g == k)=true:=by simp [e2,e]
    simp [List.lookup,this,e2,e]
   ·have : (g == k)=false:=by simp [e,e2]
    simp [List.lookup,this,e2]
  ·rw [if_neg e]
   by_cases e2 : g=k
   ·have e3 : ¬ g=f:=fun z=>e (e2.symm.trans z)
    simp [List.lookup,e2,e]
   ·have : (g == k)=false:=by simpa using e2
    simp only [List.lookup,this]
    exact ih
theorem zrl {h h' : MH} {a f : Nat} {s : Slot} (e : setField h a f s=some h') (b g : Nat) : fieldOf h' b g=if b=a∧g=f then some s else fieldOf h b g:=by
 unfold setField at e
 cases q : h.objs[a]? with
 | none=>rw [q] at e; cases e
 | some o =>
  rw [q] at e
  cases o with
  | inst c fs =>
   cases e
   unfold fieldOf
   dsimp only
   by_cases eb : b=a
   ·subst eb
    have hl : b < h.objs.length:=(List.getElem?_eq_some_iff.mp q).1
    rw [List.getElem?_set_self hl,q]
    dsimp only
    rw [zh1]
    by_cases eg : g=f
    ·simp [eg]
    ·simp [eg]
   ·rw [List.getElem?_set_ne (fun z=>eb z.symm)]
    simp [eb]
  | _=>cases e
end
end Fx
end
section
set_option maxHeartbeats 4000000
namespace Fx
open PySem PySem.Spec PyProof.Rows L2
structure TOk (K : PySem.W.Frag) (T : Tb) : Prop where
 cls : ∀ c C,T.clsA c=some C→Cls K C
 nof : ∀ c C f,T.clsA c=some C→NoAttr K C (T.fldN f)
 inj : ∀ f g,T.fldN f=T.fldN g→T.fldN f≠("" : Str)→f=g
section
variable {X : Cx} {T : Tb} {Wx : WX} {W W1 W' : Wd} {H H1 H' : Hp} {σ : St} {fr fr1 : Fr} {h h1 : MH} {e a b c : Expr} {pos : Pos} {t t' : TE} {TT : Tbl} {C : Callee} {f : Bool}
def tEs (X : Cx) (T : Tb) (Wx : WX) (m : Fr→MH→Res (List Val)) : TA:=fun σ H Q =>
 ∃ W fr h,RX X T W H fr σ h∧AfX X T Wx σ (fun W _ vs xs=>Rps (gl X T) W vs xs) W H (m fr h) Q
abbrev SEs (X : Cx) (T : Tb) (Wx : WX) (TT : Tbl) (C : Callee) (es : List Expr) (x : Exps) : Prop:=PA X es (tEs X T Wx (evs TT C x))
theorem zao : SEs X T Wx TT C [] .nil:=by
 refine PA.wk pa_nil fun σ H Q q=>?_
 simp only [evs] at q
 obtain ⟨W,fr,h,r0,a⟩:=q
 exact a W [] H (Evo.refl _ _) r0 .nil
theorem za2 {es : List Expr} {x : Exp} {xs : Exps} (ha : SE X T Wx TT C f a x) (hr : SEs X T Wx TT C es xs) (hs : starEach (a :: es) X.env=(false,eval a X.env) :: starEach es X.env:=by rfl) : SEs X T Wx TT C (a :: es) (.cons x xs):=by
 refine PA.wk (pa_cons (PE.un ha) hr hs) fun σ H Q q=>?_
 simp only [evs] at q
 obtain ⟨W,fr,h,r0,a⟩:=q
 refine ⟨W,fr,h,r0,bndE a fun y H1 W1 v fr1 h1 ev1 r1 rr a=>⟨W1,fr1,h1,r1,bndE a fun ys H2 W2 vs fr2 h2 ev2 r2 rrs a=>?_⟩⟩
 exact a W2 (y :: ys) H2 (Evo.refl _ _) r2 (.cons (Rp.le ev2.le rr) rrs)
theorem zdB {es : List Expr} {xs : Exps} {x1} (hr : SEs X T Wx TT C es xs) : SE X T Wx TT C true (.Tuple es x1 pos) (.tup xs):=by
 refine PE.wk (pe_tup hr) fun σ H Q q=>?_
 simp only [ev] at q
 obtain ⟨W,fr,h,r0,a⟩:=q
 refine ⟨W,fr,h,r0,bndE a fun ys H1 W1 vs fr1 h1 ev1 r1 rr a=>?_⟩
 cases e : zlP vs with
 | none=>simp only [opt,e] at a; exact a.elim
 | some v =>
  obtain ⟨rfl,hl⟩:=zmR e
  simp only [opt,e] at a
  refine ⟨by rw [← rr.length]; exact hl,fun p hn=>?_⟩
  obtain ⟨W',u1,w1,z1,r2⟩:=znx (X:=X) (T:=T) (WH.of r1) hn rr
  obtain ⟨r',ev'⟩:=RX.kn r1 (Ext.upd hn) u1 w1 z1
  exact a W' _ _ ev' r' (by exact r2)
theorem ziH {es : List Expr} {xs : Exps} (hr : SEs X T Wx TT C es xs) : SE X T Wx TT C true (.List es pos) (.lst xs):=by
 refine PE.wk (pe_lst hr) fun σ H Q q=>?_
 simp only [ev] at q
 obtain ⟨W,fr,h,r0,a⟩:=q
 refine ⟨W,fr,h,r0,bndE a fun ys H1 W1 vs fr1 h1 ev1 r1 rr a=>?_⟩
 cases e : zcj vs with
 | none=>simp only [opt,e] at a; exact a.elim
 | some v =>
  obtain ⟨rfl,hl⟩:=zfE e
  simp only [opt,e] at a
  refine ⟨by rw [← rr.length]; exact hl,fun p hn=>?_⟩
  obtain ⟨r',ev'⟩:=RX.kn r1 (Ext.upd hn) (Wup.refl _) ((WH.of r1).up (Ext.upd hn)) zg0
  exact a W1 _ _ ev' r' ⟨p,rfl,ev1.dom p hn,((WH.of r1).new hn).1,((WH.of r1).new hn).2,ys,upd_same,rr⟩
end
end Fx
end
section
set_option maxHeartbeats 4000000
namespace Fx
open PySem PySem.Spec PyProof.Rows L2
end Fx
end
section
set_option maxHeartbeats 4000000
namespace Fx
open PySem PySem.Spec PyProof.Rows L2
end Fx
end
section
set_option maxHeartbeats 4000000
namespace Fx
open PySem PySem.Spec PyProof.Rows L2
end Fx
end
section
set_option maxHeartbeats 4000000
namespace Fx
open PySem PySem.Spec PyProof.Rows L2
section
variable {X : Cx} {T : Tb} {Wx : WX} {W W1 W' : Wd} {H H1 H' : Hp} {σ : St} {fr fr1 : Fr} {h h1 : MH} {e a b c : Expr} {pos : Pos} {t t' : TE} {TT : Tbl} {C : Callee} {f : Bool}
theorem Kn.dctR {l : List (Val × Val)} {o : HO} {Q : VK} (k : Kn X T W H (.dct l) Q) (wh : WH W H) {p : Addr} (r : DctR (gl X T) W p l o) (hn : H p=none) : Q (.ref p) (upd H p o) :=
 k W _ _ (Ext.upd hn) (Wup.refl _) (wh.up (Ext.upd hn)) zg0 ⟨p,rfl,hn,(wh.new hn).1,(wh.new hn).2,o,upd_same,r⟩
theorem Kn.dct {l : List (Val × Val)} {vs : List (Key × V)} {Q : VK} (k : Kn X T W H (.dct l) Q) (wh : WH W H) (r : Ents (gl X T) W l vs) {p : Addr} (hn : H p=none) : Q (.ref p) (upd H p (.dK vs)) :=
 k.dctR wh (.flat r) hn
theorem Ents.keys {G : Glb} : ∀ {l : List (Val × Val)} {es : List (Key × V)},Ents G W l es→Rps G W (l.map (·.1)) (es.map fun p=>kV p.1)
 | _,_,.nil=>.nil
 | _,_,.cons h r t=>.cons (ky_rp' h) (Ents.keys t)
theorem bools_of {G : Glb} : ∀ {l : List Val} {xs : List V} {b : Bool},allOf l=some b→Rps G W l xs→∃ bs : List Bool,xs=bs.map V.bl∧bs.all id=b
 | [],_,_,h,.nil=>by cases h; exact ⟨[],rfl,rfl⟩
 | v :: l,_,b,h,.cons r t=>by
  cases v with
  | bool c =>
   have h : (allOf l).map (fun d=>c && d)=some b:=h
   cases e : allOf l with
   | none=>rw [e] at h; cases h
   | some d =>
    rw [e] at h; cases h
    obtain ⟨bs,rfl,e2⟩:=bools_of e t
    exact ⟨c :: bs,by rw [Rp.boolI r]; rfl,by rw [List.all_cons,e2]; rfl⟩
  | _=>cases h
theorem prim_all (hc : X.calm=true) : CallR X (.builtin "all") (C1 X T .all):=by
 intro pins s σ H xs us Q I r ⟨W,a,v,x,e,wh,la,hp,k⟩
 cases a with
 | lst l =>
  have hp : (allOf l).map Val.bool=some v:=hp
  cases e1 : allOf l with
  | none=>rw [e1] at hp; cases hp
  | some b =>
   rw [e1] at hp; cases hp
   obtain ⟨p,vs,rfl,rd,rl⟩:=la
   obtain ⟨bs,rfl,rfl⟩:=bools_of e1 rl
   exact cr_all hc pins s σ H xs us Q I r ⟨p,bs,e,rd,k.now wh (Rp.bool _)⟩
 | _=>cases hp
end
end Fx
end
section
set_option maxHeartbeats 4000000
namespace Fx
open PySem PySem.Spec PyProof.Rows L2
theorem zgb {n : Nat} {P : Nat→Prop} (h : ∀ i,n≤i→P i) : ∀ i,i=n→P i:=fun i e=>h i (Nat.le_of_eq e.symm)
def zlk (X : Cx) (T : Tb) (J : It) (W0 : Wd) (vs : List Val) : Prop:=∀ W H,Wle W0 W→WH W H→(∀ i,i=vs.length→J.stop i H) ∧
 ∀ i v,vs[i]? = some v→J.go i H∧∀ x H',J.yld i H x H'→∃ W',Ext H H'∧Wup W W'∧WH W' H'∧(∀ q,H q≠none→W'.Z q=W.Z q)∧Rp (gl X T) W' v x
def tI (X : Cx) (T : Tb) (Wx : WX) (m : Fr→MH→Res (List Val)) : TI:=fun σ H R =>
 ∃ W fr h,RX X T W H fr σ h∧AfX X T Wx σ (fun W _ vs J=>zlk X T J W vs) W H (m fr h) R
section
variable {X : Cx} {T : Tb} {Wx : WX} {W W1 W' : Wd} {H H1 H' : Hp} {σ : St} {fr fr1 : Fr} {h h1 : MH} {e a b c : Expr} {pos : Pos} {t t' : TE} {TT : Tbl} {C : Callee} {f : Bool} {tg : Expr}
theorem PI.or {w1 w2 : TI} (p1 : PI X tg a w1) (p2 : PI X tg a w2) : PI X tg a (fun σ H R=>w1 σ H R∨w2 σ H R):=⟨fun pins s σ H R I q=>by
 rcases q with q | q
 ·exact p1.run pins s σ H R I q
 ·exact p2.run pins s σ H R I q⟩
theorem pi_wk {w1 w2 : TI} (p : PI X tg a w1) (k : ∀ σ H R,w2 σ H R→w1 σ H R) : PI X tg a w2:=⟨fun pins s σ H R I q=>p.run pins s σ H R I (k _ _ _ q)⟩
theorem keep0 (wh : WH W H) {P : Wd→Prop} (p : P W) : ∃ W',Ext H H∧Wup W W'∧WH W' H∧(∀ q,H q≠none→W'.Z q=W.Z q)∧P W':=⟨W,Ext.refl _,Wup.refl _,wh,zg0,p⟩
theorem walk_lst {l : List Val} {p : Addr} (r : Rp (gl X T) W (.lst l) (.ref p)) : zlk X T (Itl X.K p) W l:=by
 intro W1 H1 le wh
 have r1:=Rp.le le r
 obtain ⟨p',vs,e,rd,rl⟩:=Lk.of wh r1
 cases e
 have hq : SqL X.K H1 p vs:=rd
 refine ⟨zgb fun i hi=>⟨vs,hq,by rw [← rl.length]; exact hi⟩,fun i v hv=>?_⟩
 obtain ⟨x,hx,rx⟩:=rl.get hv
 refine ⟨⟨vs,x,hq,hx⟩,fun y H' hy=>?_⟩
 obtain ⟨rfl,hy⟩:=hy
 have:=hy vs hq
 rw [hx] at this; cases this
 exact keep0 (P:=fun W=>Rp (gl X T) W v x) wh rx
theorem walk_tup {l : List Val} {bt : Bool} {p : Addr} (r : Rp (gl X T) W (.tup bt l) (.ref p)) : zlk X T (Itt X.K p) W l:=by
 intro W1 H1 le wh
 have r1:=Rp.le le r
 obtain ⟨p',vs,e,hq,rl⟩:=Rp.tupI wh r1
 cases e
 refine ⟨zgb fun i hi=>⟨vs,hq,by rw [← rl.length]; exact hi⟩,fun i v hv=>?_⟩
 obtain ⟨x,hx,rx⟩:=rl.get hv
 refine ⟨⟨vs,x,hq,hx⟩,fun y H' hy=>?_⟩
 obtain ⟨rfl,hy⟩:=hy
 have:=hy vs hq
 rw [hx] at this; cases this
 exact keep0 (P:=fun W=>Rp (gl X T) W v x) wh rx
theorem walk_str (z : Str) : zlk X T (Its z) W (z.cps.toList.map fun c=>.str ⟨#[c]⟩):=by
 intro W1 H1 le wh
 refine ⟨zgb fun i hi=>?_,fun i v hv=>?_⟩
 ·show z.cps.size≤i
  simpa using hi
 ·rw [List.getElem?_map] at hv
  cases e : z.cps.toList[i]? with
  | none=>rw [e] at hv; cases hv
  | some c =>
   rw [e] at hv
   cases hv
   have e' : z.cps[i]? = some c:=by simpa using e
   have hi : i < z.cps.size:=by
    have:=(List.getElem?_eq_some_iff.mp e).1
    simpa using this
   refine ⟨hi,fun y H' hy=>?_⟩
   obtain ⟨rfl,c',hc,rfl⟩:=hy
   rw [e'] at hc; cases hc
   exact keep0 (P:=fun W=>Rp (gl X T) W _ _) wh (.str _)
theorem walk_range (lo : Int) (n : Nat) : zlk X T (Itr lo n) W ((List.range n).map fun (i : Nat)=>.int (lo + (i : Int))):=by
 intro W1 H1 le wh
 refine ⟨zgb fun i hi=>?_,fun i v hv=>?_⟩
 ·show n≤i
  simpa using hi
 ·rw [List.getElem?_map] at hv
  cases e : (List.range n)[i]? with
  | none=>rw [e] at hv; cases hv
  | some c =>
   rw [e] at hv
   cases hv
   have hi : i < n:=by
    have:=(List.getElem?_eq_some_iff.mp e).1
    simpa using this
   rw [List.getElem?_range hi] at e
   cases e
   refine ⟨hi,fun y H' hy=>?_⟩
   obtain ⟨rfl,rfl⟩:=hy
   exact keep0 (P:=fun W=>Rp (gl X T) W _ _) wh (.int _)
theorem walk_dct {l : List (Val × Val)} {d : Addr} {o : Obj} {kvs : List (Key × V)} (z : W.Z d=some (.dK kvs)) (en : Ents (gl X T) W l kvs) (hf : W.F d=some o) : zlk X T (Itk d o kvs) W (l.map (·.1)):=by
 intro W1 H1 le wh
 obtain ⟨u,hz,hd⟩:=wh.fin d o (le.F _ _ hf)
 rw [le.Z _ _ z] at hz; cases hz
 have ks:=(Ents.le le en).keys
 refine ⟨zgb fun i hi=>⟨hd,?_⟩,fun i v hv=>?_⟩
 ·have:=ks.length
  rw [List.length_map,List.length_map] at this
  rw [List.length_map] at hi
  omega
 ·obtain ⟨x,hx,rx⟩:=ks.get hv
  rw [List.getElem?_map] at hx
  cases e : kvs[i]? with
  | none=>rw [e] at hx; cases hx
  | some kv =>
   rw [e] at hx
   cases hx
   refine ⟨⟨hd,(List.getElem?_eq_some_iff.mp e).1⟩,fun y H' hy=>?_⟩
   obtain ⟨rfl,k,v',hk,rfl⟩:=hy
   rw [e] at hk; cases hk
   exact keep0 (P:=fun W=>Rp (gl X T) W v _) wh rx
theorem step_tup {l : List Val} {vs : List V} {p : Addr} (wh : WH W H) (hn : H p=none) (rl : Rps (gl X T) W l vs) : ∃ W',Ext H (upd H p (.tup vs))∧Wup W W'∧WH W' (upd H p (.tup vs))∧(∀ q,H q≠none→W'.Z q=W.Z q)∧Rp (gl X T) W' (.tup false l) (.ref p):=by
 obtain ⟨W',u1,w1,z1,r2⟩:=znx (X:=X) (T:=T) wh hn rl
 exact ⟨W',Ext.upd hn,u1,w1,z1,r2⟩
theorem zip_get : ∀ (l m : List Val) (i : Nat),((l.zip m).map fun p=>Val.tup false [p.1,p.2])[i]? = (l[i]?).bind fun a=>(m[i]?).map fun b=>.tup false [a,b]
 | [],m,i=>by simp
 | a :: l,[],i=>by
  simp only [List.zip_nil_right,List.map_nil,List.getElem?_nil,Option.map_none]
  cases (a :: l)[i]? <;> rfl
 | a :: l,b :: m,0=>by simp
 | a :: l,b :: m,i + 1=>by
  simp only [List.zip_cons_cons,List.map_cons,List.getElem?_cons_succ]
  exact zip_get l m i
theorem walk_zip {l m : List Val} {p q : Addr} (r : Rp (gl X T) W (.lst l) (.ref p)) (s : Rp (gl X T) W (.lst m) (.ref q)) : zlk X T (Itz X.K p q) W ((l.zip m).map fun p=>.tup false [p.1,p.2]):=by
 intro W1 H1 le wh
 obtain ⟨p',vs,e,rd,rl⟩:=Lk.of wh (Rp.le le r)
 cases e
 obtain ⟨q',ws,e,rd2,rl2⟩:=Lk.of wh (Rp.le le s)
 cases e
 have hq : SqL X.K H1 p vs:=rd
 have hq2 : SqL X.K H1 q ws:=rd2
 refine ⟨zgb fun i hi=>⟨vs,ws,hq,hq2,?_⟩,fun i v hv=>?_⟩
 ·rw [List.length_map,List.length_zip,rl.length,rl2.length] at hi
  omega
 ·rw [zip_get] at hv
  cases e : l[i]? with
  | none=>rw [e] at hv; cases hv
  | some w =>
   cases e2 : m[i]? with
   | none=>rw [e,e2] at hv; cases hv
   | some w2 =>
    rw [e,e2] at hv
    cases hv
    obtain ⟨x,hx,rx⟩:=rl.get e
    obtain ⟨y,hy,ry⟩:=rl2.get e2
    refine ⟨⟨vs,ws,x,y,hq,hq2,hx,hy⟩,fun z H' hz=>?_⟩
    obtain ⟨t,x',y',rfl,hn,rfl,h1,h2⟩:=hz
    have:=h1 vs hq
    rw [hx] at this; cases this
    have:=h2 ws hq2
    rw [hy] at this; cases this
    exact step_tup wh hn (.cons rx (.cons ry .nil))
end
end Fx
end
section
set_option maxHeartbeats 4000000
namespace Fx
open PySem PySem.Spec PyProof.Rows L2
section
variable {G : Glb} {W W' : Wd} {H : Hp} {N : List Str} {ec : Ec} {fr : Fr} {σ : L2.St} {h : MH}
theorem zbO.other {σ' : L2.St} {i : Nat} {s : Slot} (e : σ'[i]? = σ[i]?) (c : zbO G W H N ec σ i s) : zbO G W H N ec σ' i s:=by
 cases s with
 | un=>trivial
 | val v=>obtain ⟨x,a,b⟩:=c; exact ⟨x,by rw [e]; exact a,b⟩
 | own v=>obtain ⟨x,a,b⟩:=c; exact ⟨x,by rw [e]; exact a,b⟩
 | own2 v=>obtain ⟨x,a,b⟩:=c; exact ⟨x,by rw [e]; exact a,b⟩
 | cell c'=>exact c
 | exc c' v=>obtain ⟨x,a,b⟩:=c; exact ⟨x,by rw [e]; exact a,b⟩
theorem R.setS {i : Nat} {s s' : Slot} {y : Option V} (r : R G W H N ec fr σ h) (hs : fr[i]? = some s) (hc : ∀ c,s≠.cell c) (hc' : ∀ c,s'≠.cell c) (q : zbO G W H N ec (σ.set i y) i s') : R G W H N ec (fr.set i s') (σ.set i y) h:=by
  have hl : i < fr.length:=(List.getElem?_eq_some_iff.mp hs).1
  refine ⟨⟨by simp [r.f.len],fun j t e=>?_,fun j k c e1 e2=>?_⟩,⟨r.h.zin,r.h.fin,r.h.oin,r.h.uni,r.h.oas,r.h.asn,r.h.lι,r.h.lk,r.h.objs,fun c v e=>?_,r.h.x.keep (Wle.refl W) (fun _ z=>z) (fun _ _=>rfl) rfl (fun _ _ _=>rfl) (fun j c e=>⟨j,?_⟩)⟩,r.kk⟩
  · by_cases ej : j=i
    · subst ej
      rw [List.getElem?_set_self hl] at e; cases e
      exact q
    · rw [List.getElem?_set_ne (fun z=>ej z.symm)] at e
      exact zbO.other (by rw [List.getElem?_set_ne (fun z=>ej z.symm)]) (r.f.at_ j t e)
  · have go : ∀ j,(fr.set i s')[j]? = some (Slot.cell c)→fr[j]? = some (Slot.cell c):=fun j e=>by
      by_cases ej : j=i
      · subst ej
        rw [List.getElem?_set_self hl] at e; cases e
        exact absurd rfl (hc' c)
      · rw [List.getElem?_set_ne (fun z=>ej z.symm)] at e; exact e
    exact r.f.inj j k c (go j e1) (go k e2)
  · rcases r.h.cells c v e with ⟨j,x,h1,h2,h3⟩ | ⟨h1,h2⟩
    · have ej : j≠i:=fun z=>by rw [z,hs] at h1; cases h1; exact hc c rfl
      exact .inl ⟨j,x,by rw [List.getElem?_set_ne (fun z=>ej z.symm)]; exact h1,by rw [List.getElem?_set_ne (fun z=>ej z.symm)]; exact h2,h3⟩
    · refine .inr ⟨fun j=>?_,h2⟩
      by_cases ej : j=i
      · subst ej
        rw [List.getElem?_set_self hl]
        intro z; cases z; exact hc' c rfl
      · rw [List.getElem?_set_ne (fun z=>ej z.symm)]; exact h1 j
  · by_cases ej : j=i
    · subst ej
      rw [hs] at e; cases e
      exact absurd rfl (hc c)
    · rw [List.getElem?_set_ne (fun z=>ej z.symm)]; exact e
theorem zgY {i : Nat} (e : zbU fr i=true) : ∃ s,fr[i]? = some s∧∀ c,s≠.cell c:=by
 unfold zbU at e
 cases q : fr[i]? with
 | none=>rw [q] at e; cases e
 | some s =>
  rw [q] at e
  refine ⟨s,rfl,fun c z=>?_⟩
  subst z
  cases e
theorem R.setV {i : Nat} {v : Val} {x : V} (r : R G W H N ec fr σ h) (e : zbU fr i=true) (rv : Rp G W v x) : R G W H N ec (fr.set i (.val v)) (σ.set i (some x)) h:=by
 obtain ⟨s,hs,hc⟩:=zgY e
 have hl : i < σ.length:=by rw [← r.f.len]; exact (List.getElem?_eq_some_iff.mp hs).1
 exact r.setS hs hc (fun _=>nofun) ⟨x,List.getElem?_set_self hl,rv⟩
end
mutual
def pvars : Pat→List Nat
 | .var i=>[i]
 | .cvar i=>[i]
 | .tup ps=>zmP ps
def zmP : List Pat→List Nat
 | []=>[]
 | p :: ps=>pvars p ++ zmP ps
end
def SameBut (vs : List Nat) (σ σ' : St) : Prop:=σ'.length = σ.length∧∀ j,j ∉ vs→σ'[j]? = σ[j]?
theorem SameBut.refl (vs : List Nat) (σ : St) : SameBut vs σ σ:=⟨rfl,fun _ _=>rfl⟩
def tG (X : Cx) (T : Tb) (p : Pat) : TG:=fun x σ H N=>∃ W fr h v fr' h',RX X T W H fr σ h∧Rp (gl X T) W v x∧asg p v fr h=some (fr',h') ∧
 ∀ σ',RX X T W H fr' σ' h'→SameBut (pvars p) σ σ'→N σ' H
def tGs (X : Cx) (T : Tb) (ps : List Pat) : TGs:=fun xs σ H N=>∃ W fr h vs fr' h',RX X T W H fr σ h∧Rps (gl X T) W vs xs∧asgs ps vs fr h=some (fr',h') ∧
 ∀ σ',RX X T W H fr' σ' h'→SameBut (zmP ps) σ σ'→N σ' H
section
variable {X : Cx} {T : Tb} {Wx : WX} {W W1 W' : Wd} {H H1 H' : Hp} {σ : St} {fr fr1 : Fr} {h h1 : MH} {e a b c : Expr} {pos : Pos} {TT : Tbl} {C : Callee} {f : Bool} {tg : Expr}
theorem pg_wk {t t' : TG} (p : PG X tg t) (k : ∀ x σ H N,t' x σ H N→t x σ H N) : PG X tg t':=⟨fun pins s σ H v u Q I r q=>p.run pins s σ H v u Q I r (k _ _ _ _ q)⟩
theorem pgs_wk {ts : List Expr} {t t' : TGs} (p : PGs X ts t) (k : ∀ x σ H N,t' x σ H N→t x σ H N) : PGs X ts t':=⟨fun pins s σ H v u Q I r q=>p.run pins s σ H v u Q I r (k _ _ _ _ q)⟩
theorem zeX {i : Nat} {x : Str} (hN : X.N.Nodup) (hi : X.N[i]? = some x) (hx : Loc X.env.scope x) (hf : X.fn x=true∨X.env.scope.names.lookup x=some .local) : PG X (.Name x pos) (tG X T (.var i)):=by
 refine pg_wk (pg_name hN hi hx hf) fun y σ H N ⟨W,fr,h,v,fr',h',r,rv,e,k⟩=>?_
 simp only [asg] at e
 split at e
 ·rename_i ok
  cases e
  exact k _ (r.setV ok rv) ⟨by simp,fun j hj=>by rw [List.getElem?_set_ne]; intro z; exact hj (by simp [pvars,z])⟩
 ·cases e
theorem sgs_nil : PGs X [] (tGs X T []):=by
 refine pgs_wk pgs_nil fun xs σ H N ⟨W,fr,h,vs,fr',h',r,rv,e,k⟩=>?_
 cases vs with
 | nil =>
  cases rv
  simp only [asgs] at e
  cases e
  exact ⟨rfl,k _ r (SameBut.refl _ _)⟩
 | cons v vs=>simp only [asgs] at e; cases e
theorem zgJ {p : Pat} {ps : List Pat} {es : List Expr} (h1 : PG X e (tG X T p)) (h2 : PGs X es (tGs X T ps)) (hs : (assignEach (e :: es) X.env).map (·.2)=assign e X.env :: (assignEach es X.env).map (·.2):=by rfl) : PGs X (e :: es) (tGs X T (p :: ps)):=by
 refine pgs_wk (pgs_cons h1 h2 hs) fun xs σ H N ⟨W,fr,h,vs,fr',h',r,rv,e,k⟩=>?_
 cases vs with
 | nil=>simp only [asgs] at e; cases e
 | cons v vs =>
  cases rv with
  | cons rv rvs =>
   simp only [asgs] at e
   cases e1 : asg p v fr h with
   | none=>rw [e1] at e; cases e
   | some fh =>
    obtain ⟨fr1,h1⟩:=fh
    rw [e1] at e
    refine ⟨_,_,rfl,W,fr,h,v,fr1,h1,r,rv,e1,fun σ1 r1 s1=>?_⟩
    refine ⟨W,fr1,h1,vs,fr',h',r1,rvs,e,fun σ2 r2 s2=>k σ2 r2 ⟨s2.1.trans s1.1,fun j hj=>?_⟩⟩
    have hj1 : j ∉ pvars p:=fun z=>hj (by simp [zmP,z])
    have hj2 : j ∉ zmP ps:=fun z=>hj (by simp [zmP,z])
    rw [s2.2 j hj2,s1.2 j hj1]
theorem asgs_len : ∀ {ps : List Pat} {vs : List Val} {fr : Fr} {h : MH} {q : Fr × MH},asgs ps vs fr h=some q→vs.length=ps.length
 | [],[],_,_,_,_=>rfl
 | [],_ :: _,_,_,_,e=>by simp only [asgs] at e; cases e
 | _ :: _,[],_,_,_,e=>by simp only [asgs] at e; cases e
 | p :: ps,v :: vs,fr,h,q,e=>by
  simp only [asgs] at e
  cases e1 : asg p v fr h with
  | none=>rw [e1] at e; cases e
  | some fh=>rw [e1] at e; rw [List.length_cons,List.length_cons,asgs_len e]
theorem sg_tup {ps : List Pat} {es : List Expr} {k : Nat} (hc : X.calm=true) (h : PGs X es (tGs X T ps)) (hn : (assignEach es X.env).length=ps.length:=by rfl) (hst : (assignEach es X.env).findIdx? (·.1)=none:=by rfl) : PG X (.Tuple es k pos) (tG X T (.tup ps)):=by
 refine pg_wk (pg_tup hc h hn hst) fun y σ H N ⟨W,fr,h,v,fr',h',r,rv,e,k⟩=>?_
 cases v with
 | tup bt l =>
  simp only [asg] at e
  obtain ⟨p,vs,rfl,hq,rl⟩:=Rp.tupI (WH.of r) rv
  exact ⟨p,vs,rfl,hq,by rw [← rl.length,asgs_len e],W,fr,h,l,fr',h',r,rl,e,fun σ' r' s'=>k σ' r' s'⟩
 | _=>simp only [asg] at e; cases e
end
end Fx
end
section
set_option maxHeartbeats 4000000
namespace Fx
open PySem PySem.Spec PyProof.Rows L2
section
variable {X : Cx} {T : Tb} {Wx : WX} {W W1 W' : Wd} {H H1 H' : Hp} {σ : St} {fr fr1 : Fr} {h h1 : MH} {e a b c : Expr} {pos : Pos} {t t' : TE} {TT : Tbl} {C : Callee} {f : Bool} {tg : Expr}
def Wd.hold (W : Wd) (d : Addr) (od : Obj) : Wd:={ W with F:=fun p=>if p=d then some od else W.F p }
theorem RX.lock (r : RX X T W H fr σ h) {d : Addr} {kvs : List (Key × V)} {od : Obj} (z : W.Z d=some (.dK kvs)) (hd : H d=some (.dK kvs)∨H d=some (.frz od (.dK kvs))) (hne : ∀ {p},p≠d→H' p=H p) (hs : H' d=some (.frz od (.dK kvs))) : RX X T (W.hold d od) H' fr σ h∧Evo W H (W.hold d od) H':=by
 have no : W.own d=none:=(r.h.zin d _ z).no
 have own_ne : ∀ {p o},W.own p=some o→p≠d:=fun q e=>by rw [e,no] at q; cases q
 have le : Wle W (W.hold d od):=by
  refine ⟨fun _ _ h=>h,fun p o q=>?_,fun _ _ h=>h,fun _ _ h=>h,fun p vs q f=>?_,fun _ _=>Iff.rfl,fun _ _ h=>h⟩
  rotate_left
  ·exact (if_neg (fun e=>by rw [e,z] at q; cases q)).trans f
  show (if p=d then some od else W.F p)=some o
  by_cases e : p=d
  ·subst e
   obtain ⟨u,_,h2⟩:=r.h.fin p o q
   rcases hd with hd | hd
   ·rw [hd] at h2; cases h2
   ·rw [hd] at h2; cases h2; exact if_pos rfl
  ·rw [if_neg e]; exact q
 have cu : ∀ {v : Val} {p : Addr},p≠d→Cur (gl X T) W H v p→Cur (gl X T) (W.hold d od) H' v p:=fun {v p} e c=>by
  cases v with
  | lst l=>obtain ⟨vs,a,b⟩:=c; exact ⟨vs,by rw [hne e]; exact a,b.le le⟩
  | dct l=>obtain ⟨vs,a,b⟩:=c; exact ⟨vs,by rw [hne e]; exact a,b.le le⟩
  | _=>exact c
 refine ⟨⟨⟨r.f.len,fun i s hsl=>?_,r.f.inj⟩,⟨fun p o q=>?_,fun p o q=>?_,fun p o q=>?_,r.h.uni,r.h.oas,r.h.asn,r.h.lι,r.h.lk,fun n o ho=>?_,fun c v q=>?_,r.h.x.keep le (fun _ z=>z) (fun P o=>hne (own_ne o)) rfl (fun a o z=>hne (fun e=>by rw [e] at z; rcases hd with hd | hd <;> (rw [hd] at z; cases z))) (fun i _ z=>⟨i,z⟩)⟩,zpx le r.kk⟩,le,fun p o hp zn n=>⟨?_,n⟩,fun p o hp zn n=>zn,fun _ _ q=>q,fun _ _ _ _ q=>q,fun p q=>?_,fun _ _ r r' _ a b=>by have b : W.own _=some r':=b; rw [a] at b; cases b; rfl,fun _ _ _ n=>n⟩
 ·have c:=r.f.at_ i s hsl
  cases s with
  | un=>trivial
  | val v=>obtain ⟨x,a,b⟩:=c; exact ⟨x,a,b.le le⟩
  | own v=>obtain ⟨p,a,b,k⟩:=c; exact ⟨p,a,b,cu (own_ne b) k⟩
  | own2 v =>
   obtain ⟨p,a,b,k⟩:=c
   refine ⟨p,a,b,?_⟩
   cases v with
   | lst l =>
    obtain ⟨qs,h1,h2,h3⟩:=k
    exact ⟨qs,by rw [hne (own_ne b)]; exact h1,h2,Paired.imp2 (fun _ q z=>⟨z.1,cu (own_ne z.1) z.2⟩) h3⟩
   | _=>exact k
  | cell c'=>exact c
  | exc c' v=>obtain ⟨x,a,b⟩:=c; exact ⟨x,a,b.le le⟩
 ·have q':=r.h.zin p o q
  by_cases e : p=d
  ·subst e
   have q : W.Z p=some o:=q
   rw [z] at q; cases q
   exact ⟨.inr ⟨od,hs⟩,q'.no,q'.nf,fun _=>nofun⟩
  ·refine ⟨?_,q'.no,q'.nf,fun vs e' f=>by rw [hne e]; exact q'.ls vs e' ((if_neg e).symm.trans f)⟩
   rcases q'.rd with q | ⟨o',q⟩
   ·exact .inl (by rw [hne e]; exact q)
   ·exact .inr ⟨o',by rw [hne e]; exact q⟩
 ·have q : (if p=d then some od else W.F p)=some o:=q
  by_cases e : p=d
  ·subst e
   rw [if_pos rfl] at q; cases q
   exact ⟨_,z,hs⟩
  ·rw [if_neg e] at q
   obtain ⟨u,h1,h2⟩:=r.h.fin p o q
   exact ⟨u,h1,by rw [hne e]; exact h2⟩
 ·rw [hne (own_ne q)]; exact r.h.oin p o q
 ·obtain ⟨p,h1,h2,h3⟩:=r.h.objs n o ho
  refine ⟨p,h1,h2,?_⟩
  cases o with
  | inst c' fs =>
   obtain ⟨C',dx,vs,hC,hp,hf,hr,hl⟩:=h3
   refine ⟨C',dx,vs,hC,by rw [hne (own_ne h2)]; exact hp,fun g s q=>?_,hr,hl⟩
   have k:=hf g s q
   cases s with
   | val v=>obtain ⟨x,a,b⟩:=k; exact ⟨x,a,b.le le⟩
   | own v=>obtain ⟨p,a,b,k⟩:=k; exact ⟨p,a,b,cu (own_ne b) k⟩
   | _=>exact k
  | hl l=>exact cu (v:=.lst l) (own_ne h2) h3
  | hd l=>exact cu (v:=.dct l) (own_ne h2) h3
 ·rcases r.h.cells c v q with ⟨i,x,h1,h2,h3⟩ | ⟨h1,a,x,u,h2,h3,h4,h5⟩
  ·exact .inl ⟨i,x,h1,h2,h3.le le⟩
  ·exact .inr ⟨h1,a,x,u,h2,by rw [hne (fun e=>by rcases hd with hd | hd <;> (rw [e,hd] at h3; cases h3))]; exact h3,h4,h5.le le⟩
 ·rw [hne (fun e=>by rw [e,z] at zn; cases zn)]; exact hp
 ·by_cases e : p=d
  ·subst e; rw [hs] at q; cases q
  ·rw [hne e] at q; exact q
theorem pe_lockF (p : PE X e t) : PE X e (fun σ H Q=>t σ H fun x H1=>Q x H1∨∃ d u,H1 d=some u∧Mut (some u)∧∀ od,Q x (upd H1 d (.frz od u))):=⟨fun pins s σ H Q I q=>by
 refine thn (p.run pins s σ H _ I q) fun v s1 ⟨x,H1,I1,rx,q1⟩=>?_
 rcases q1 with q1 | ⟨d,u,hd,mu,q1⟩
 ·exact ⟨x,H1,I1,rx,q1⟩
 ·obtain ⟨od,I2⟩:=I1.lock hd mu
  exact ⟨x,_,I2,rx,q1 od⟩⟩
def Held (X : Cx) (T : Tb) (W : Wd) (v : Val) (x : V) : Prop:=∀ l,v = .dct l→(l.all fun p=>isKs p.1)=true→∃ d od kvs,x = .ref d∧W.Z d=some (.dK kvs)∧W.F d=some od∧Ents (gl X T) W l kvs
def tK (X : Cx) (T : Tb) (Wx : WX) (m : Fr→MH→Res Val) : TE:=fun σ H Q=>∃ W fr h,RX X T W H fr σ h ∧
 AfX X T Wx σ (fun W _ v x=>Rp (gl X T) W v x∧Held X T W v x) W H (m fr h) Q
theorem pe_tK {m : Fr→MH→Res Val} (p : PE X e (tE X T Wx false m)) : PE X e (tK X T Wx m):=by
 refine PE.wk (pe_lockF p) fun σ H Q ⟨W,fr,h,r,a⟩=>⟨W,fr,h,r,?_⟩
 cases e : m fr h with
 | stuck=>rw [e] at a; exact a.elim
 | exn c y fr1 h1=>rw [e] at a; exact a
 | ok v fr1 h1 =>
  rw [e] at a
  intro W1 x H1 ev1 r1 rr
  have rr : Rp (gl X T) W1 v x:=rr
  by_cases hv : ∃ l,v = .dct l∧(l.all fun p=>isKs p.1)=true
  ·obtain ⟨l,rfl,hk⟩:=hv
   cases rr with
   | @dct _ d o rd en =>
    obtain ⟨kvs,rfl,en⟩:=en.f hk
    have z : W1.Z d=some (.dK kvs):=by
     rcases rd with z | ⟨o,z⟩
     ·exact z
     ·exact absurd rfl ((r1.h.zin d _ z).nf o (.dK kvs))
    have fin : ∀ od,(W1.hold d od).F d=some od:=fun od=>if_pos rfl
    rcases (r1.h.zin d _ z).rd with hd | ⟨od,hd⟩
    ·refine .inr ⟨d,_,hd,trivial,fun od=>?_⟩
     obtain ⟨r2,ev2⟩:=RX.lock (od:=od) (H':=upd H1 d (.frz od (.dK kvs))) r1 z (.inl hd) (fun e=>upd_ne e) upd_same
     exact a (W1.hold d od) (.ref d) _ (ev1.trans ev2) r2 ⟨.dct (.inl z) (.flat (Ents.le ev2.le (by assumption))),fun l' q _=>by cases q; exact ⟨d,od,kvs,rfl,z,fin od,Ents.le ev2.le (by assumption)⟩⟩
    ·refine .inl ?_
     obtain ⟨r2,ev2⟩:=RX.lock (od:=od) (H':=H1) r1 z (.inr hd) (fun _=>rfl) hd
     exact a (W1.hold d od) (.ref d) _ (ev1.trans ev2) r2 ⟨.dct (.inl z) (.flat (Ents.le ev2.le (by assumption))),fun l' q _=>by cases q; exact ⟨d,od,kvs,rfl,z,fin od,Ents.le ev2.le (by assumption)⟩⟩
  ·exact .inl (a W1 x H1 ev1 r1 ⟨rr,fun l q hk=>absurd ⟨l,q,hk⟩ hv⟩)
abbrev SI (X : Cx) (T : Tb) (Wx : WX) (TT : Tbl) (C : Callee) (tg : Expr) (e : Expr) (it : Iter) : Prop:=PI X tg e (tI X T Wx (evi TT C it))
theorem si_e {x : Exp} (ha : SE X T Wx TT C f a x) : SI X T Wx TT C tg a (.e x):=by
 have pk:=pe_tK (PE.un ha)
 refine pi_wk (PI.or (PI.or (pi_list pk) (pi_tup pk)) (PI.or (pi_str pk) (pi_keys pk))) fun σ H R ⟨W,fr,h,r,a⟩=>?_
 simp only [evi] at a
 cases e : ev TT C x fr h with
 | stuck=>simp only [bnd,e] at a; exact a.elim
 | exn c y fr1 h1 =>
  simp only [bnd,e] at a
  exact .inl (.inl ⟨W,fr,h,r,by rw [e]; exact a⟩)
 | ok v fr1 h1 =>
  simp only [bnd,e] at a
  cases v with
  | lst l =>
   refine .inl (.inl ⟨W,fr,h,r,?_⟩)
   rw [e]
   intro W1 x H1 ev1 r1 ⟨rr,_⟩
   obtain ⟨p,vs,rfl,rd,rl⟩:=Lk.of (WH.of r1) rr
   exact ⟨p,rfl,⟨vs,rd⟩,a W1 _ H1 ev1 r1 (walk_lst rr)⟩
  | tup bt l =>
   refine .inl (.inr ⟨W,fr,h,r,?_⟩)
   rw [e]
   intro W1 x H1 ev1 r1 ⟨rr,_⟩
   obtain ⟨p,vs,rfl,rd,rl⟩:=Rp.tupI (WH.of r1) rr
   exact ⟨p,rfl,⟨vs,rd⟩,a W1 _ H1 ev1 r1 (walk_tup rr)⟩
  | str z =>
   refine .inr (.inl ⟨W,fr,h,r,?_⟩)
   rw [e]
   intro W1 x H1 ev1 r1 ⟨rr,_⟩
   have rr : Rp (gl X T) W1 (.str z) x:=rr
   cases Rp.strI rr
   exact ⟨z,rfl,a W1 _ H1 ev1 r1 (walk_str z)⟩
  | dct l =>
   by_cases hk0 : (l.all fun p=>isKs p.1)=true
   rotate_left
   ·have ei : zkV h1 (.dct l)=Option.none:=if_neg hk0
    simp only [opt,ei] at a
    exact a.elim
   have ei : zkV h1 (.dct l)=some (l.map (·.1)):=if_pos hk0
   simp only [opt,ei] at a
   refine .inr (.inr ⟨W,fr,h,r,?_⟩)
   rw [e]
   intro W1 x H1 ev1 r1 ⟨rr,hk⟩
   obtain ⟨d,od,kvs,rfl,z,hf,en⟩:=hk l rfl hk0
   obtain ⟨u,hz,hd⟩:=r1.h.fin d od hf
   rw [z] at hz; cases hz
   exact ⟨d,od,rfl,.inl ⟨kvs,hd,a W1 _ H1 ev1 r1 (walk_dct z en hf)⟩⟩
  | _=>exact a.elim
theorem si_range1 {x : Exp} {p : Pos} (hg : Gl X "range") (hm : X.mg "range" = none) (ha : SE X T Wx TT C f a x) (hs : starEach [a] X.env = [(false,eval a X.env)]:=by rfl) :
  SI X T Wx TT C tg (.Call (.Name "range" p) [a] [] pos) (.range (.cons x .nil)):=by
 refine pi_wk (pi_range1 hg hm (za2 ha zao (by rw [hs]; rfl)) hs) fun σ H R ⟨W,fr,h,r,a⟩=>?_
 simp only [evi] at a
 refine ⟨W,fr,h,r,?_⟩
 simp only [evs] at a ⊢
 cases e : ev TT C x fr h with
 | stuck=>simp only [bnd,e] at a; exact a.elim
 | exn c y fr1 h1=>simp only [bnd,e] at a ⊢; exact a
 | ok v fr1 h1 =>
  simp only [bnd,e,rt] at a ⊢
  intro W1 xs H1 ev1 r1 rr
  cases rr with
  | cons rr rn =>
   cases rn
   cases v with
   | int n =>
    cases Rp.intI rr
    dsimp only at a
    split at a
    ·rename_i hf
     rw [fits_eq] at hf
     have hf:=of_decide_eq_true hf
     refine ⟨n,rfl,hf.1,hf.2,?_⟩
     have w:=walk_range (X:=X) (T:=T) (W:=W1) 0 n.toNat
     refine a W1 _ H1 ev1 r1 ?_
     unfold zg3
     rw [Int.sub_zero]
     exact w
    ·exact a.elim
   | _=>exact a.elim
end
end Fx
end
section
set_option maxHeartbeats 4000000
namespace Fx
open PySem PySem.Spec PyProof.Rows L2
theorem wipe_at (own : List Nat) : ∀ (σ : Fr) (i : Nat),(wipe own σ)[i]? = if i∈own∧i < σ.length then some .un else σ[i]?:=by
 unfold wipe
 induction own with
 | nil=>intro σ i; simp
 | cons o own ih =>
  intro σ i
  rw [List.foldl_cons,ih]
  by_cases h : i∈own∧i < σ.length
  ·have h2 : i∈own∧i < (σ.set o Slot.un).length:=by simpa using h
   rw [if_pos h2,if_pos ⟨List.mem_cons_of_mem _ h.1,h.2⟩]
  ·have h2 : ¬ (i∈own∧i < (σ.set o Slot.un).length):=by simpa using h
   rw [if_neg h2]
   by_cases e : i=o
   ·subst e
    by_cases hl : i < σ.length
    ·rw [List.getElem?_set_self hl,if_pos ⟨List.mem_cons_self,hl⟩]
    ·rw [if_neg (fun z=>hl z.2)]
     rw [List.getElem?_eq_none (by simpa using hl),List.getElem?_eq_none (by simpa using hl)]
   ·rw [List.getElem?_set_ne (fun z=>e z.symm)]
    by_cases hl : i∈(o :: own)∧i < σ.length
    ·rcases List.mem_cons.mp hl.1 with z | z
     ·exact absurd z e
     ·exact absurd ⟨z,hl.2⟩ h
    ·rw [if_neg hl]
theorem wipe_len (own : List Nat) : ∀ σ : Fr,(wipe own σ).length = σ.length:=by
 unfold wipe
 induction own with
 | nil=>intro σ; rfl
 | cons o own ih=>intro σ; rw [List.foldl_cons,ih]; simp
theorem zmy (own : List Nat) (σ₀ : Fr) : ∀ (σ : Fr) (i : Nat),(restore own σ₀ σ)[i]? = if i∈own∧i < σ.length then some (σ₀.getD i .un) else σ[i]?:=by
 unfold restore
 induction own with
 | nil=>intro σ i; simp
 | cons o own ih =>
  intro σ i
  rw [List.foldl_cons,ih]
  by_cases h : i∈own∧i < σ.length
  ·have h2 : i∈own∧i < (σ.set o (σ₀.getD o Slot.un)).length:=by simpa using h
   rw [if_pos h2,if_pos ⟨List.mem_cons_of_mem _ h.1,h.2⟩]
  ·have h2 : ¬ (i∈own∧i < (σ.set o (σ₀.getD o Slot.un)).length):=by simpa using h
   rw [if_neg h2]
   by_cases e : i=o
   ·subst e
    by_cases hl : i < σ.length
    ·rw [List.getElem?_set_self hl,if_pos ⟨List.mem_cons_self,hl⟩]
    ·rw [if_neg (fun z=>hl z.2)]
     rw [List.getElem?_eq_none (by simpa using hl),List.getElem?_eq_none (by simpa using hl)]
   ·rw [List.getElem?_set_ne (fun z=>e z.symm)]
    by_cases hl : i∈(o :: own)∧i < σ.length
    ·rcases List.mem_cons.mp hl.1 with z | z
     ·exact absurd z e
     ·exact absurd ⟨z,hl.2⟩ h
    ·rw [if_neg hl]
theorem zqx (own : List Nat) (σ₀ : Fr) : ∀ σ : Fr,(restore own σ₀ σ).length = σ.length:=by
 unfold restore
 induction own with
 | nil=>intro σ; rfl
 | cons o own ih=>intro σ; rw [List.foldl_cons,ih]; simp
theorem zey (own : List Nat) : ∀ (σ : St) (i : Nat),(L2.wipe σ own)[i]? = if i∈own∧i < σ.length then some none else σ[i]?:=by
 intro σ i
 induction own with
 | nil=>simp [L2.wipe]
 | cons o own ih =>
  unfold L2.wipe
  by_cases e : i=o
  ·subst e
   by_cases hl : i < σ.length
   ·rw [List.getElem?_set_self (by rw [L2.wipe_length]; exact hl),if_pos ⟨List.mem_cons_self,hl⟩]
   ·rw [if_neg (fun z=>hl z.2),List.getElem?_eq_none (by rw [List.length_set,L2.wipe_length]; omega),List.getElem?_eq_none (by omega)]
  ·rw [List.getElem?_set_ne (fun z=>e z.symm),ih]
   by_cases h : i∈own∧i < σ.length
   ·rw [if_pos h,if_pos ⟨List.mem_cons_of_mem _ h.1,h.2⟩]
   ·rw [if_neg h,if_neg (fun z=>by rcases List.mem_cons.mp z.1 with q | q; exact e q; exact h ⟨q,z.2⟩)]
section
variable {X : Cx} {T : Tb} {Wx : WX} {W W1 W' : Wd} {H H1 H' : Hp} {σ : St} {fr fr1 : Fr} {h h1 : MH} {e a b c : Expr} {pos : Pos} {t t' : TE} {TT : Tbl} {C : Callee} {f : Bool} {tg : Expr}
theorem RX.frame {fr' : Fr} {σ' : St} (r : RX X T W H fr σ h) (hl : fr'.length = σ'.length) (hs : ∀ i s,fr'[i]? = some s→zbO (gl X T) W H X.N T.cm σ' i s) (hc : ∀ (i c : Nat),fr'[i]? = some (Slot.cell c)↔fr[i]? = some (Slot.cell c)) (hv : ∀ (i c : Nat),fr[i]? = some (Slot.cell c)→σ'[i]? = σ[i]?) : RX X T W H fr' σ' h:=by
 refine ⟨⟨hl,hs,fun i j c e1 e2=>r.f.inj i j c ((hc i c).mp e1) ((hc j c).mp e2)⟩,⟨r.h.zin,r.h.fin,r.h.oin,r.h.uni,r.h.oas,r.h.asn,r.h.lι,r.h.lk,r.h.objs,fun c v q=>?_,r.h.x.keep (Wle.refl W) (fun _ z=>z) (fun _ _=>rfl) rfl (fun _ _ _=>rfl) (fun i c z=>⟨i,(hc i c).mpr z⟩)⟩,r.kk⟩
 rcases r.h.cells c v q with ⟨i,x,h1,h2,h3⟩ | ⟨h1,h2⟩
 ·exact .inl ⟨i,x,(hc i c).mpr h1,by rw [hv i c h1]; exact h2,h3⟩
 ·exact .inr ⟨fun i z=>h1 i ((hc i c).mp z),h2⟩
theorem nocell {own : List Nat} (r : RX X T W H fr σ h) (hcm : ∀ i∈own,T.cm.c i=none) {i c : Nat} (e : fr[i]? = some (Slot.cell c)) : i ∉ own:=fun hi=>by
 have:=r.f.at_ i _ e
 have q : T.cm.c i=some c:=this
 rw [hcm i hi] at q; cases q
theorem RX.wiped {own : List Nat} {σ0 : St} (r : RX X T W H fr σ h) (hcm : ∀ i∈own,T.cm.c i=none) (hw : L2.wipe σ own=L2.wipe σ0 own) : RX X T W H (wipe own fr) (L2.wipe σ0 own) h:=by
 rw [← hw]
 refine r.frame (by rw [wipe_len,L2.wipe_length,r.f.len]) (fun i s e=>?_) (fun i c=>?_) (fun i c e=>?_)
 ·rw [wipe_at] at e
  split at e
  ·cases e; trivial
  ·rename_i hn
   exact zbO.other (by rw [zey,if_neg (fun z=>hn ⟨z.1,by rw [r.f.len]; exact z.2⟩)]) (r.f.at_ i s e)
 ·rw [wipe_at]
  split
  ·rename_i hy
   exact ⟨(fun z=>nomatch z),fun z=>absurd hy.1 (nocell r hcm z)⟩
  ·exact Iff.rfl
 ·rw [zey,if_neg (fun z=>nocell r hcm e z.1)]
theorem RX.restored {own : List Nat} {σ : St} {fr0 frE : Fr} {hE : MH} {W0 : Wd} {H0 : Hp} {h0 : MH} (r : RX X T W H frE (L2.wipe σ own) hE) (r0 : RX X T W0 H0 fr0 σ h0) (ev : Evo W0 H0 W H) (hcm : ∀ i∈own,T.cm.c i=none) (hf : own.all (freeSlot fr0)=true) : RX X T W H (restore own fr0 frE) σ hE:=by
 have hlen : frE.length = σ.length:=by rw [r.f.len,L2.wipe_length]
 refine r.frame (by rw [zqx,hlen]) (fun i s e=>?_) (fun i c=>?_) (fun i c e=>?_)
 ·rw [zmy] at e
  split at e
  ·rename_i hy
   have:=List.all_eq_true.mp hf i hy.1
   unfold freeSlot at this
   cases q : fr0[i]? with
   | none=>rw [q] at this; cases this
   | some s0 =>
    rw [q] at this
    have e : some (fr0.getD i Slot.un)=some s:=e
    rw [List.getD_eq_getElem?_getD,q] at e
    cases e
    cases s0 with
    | un=>trivial
    | val v=>obtain ⟨x,a,b⟩:=r0.f.at_ i _ q; exact ⟨x,a,b.le ev.le⟩
    | _=>cases this
  ·rename_i hn
   exact zbO.other (by rw [zey,if_neg (fun z=>hn ⟨z.1,by rw [hlen]; exact z.2⟩)]) (r.f.at_ i s e)
 ·rw [zmy]
  split
  ·rename_i hy
   refine ⟨fun z=>?_,fun z=>absurd hy.1 (nocell r hcm z)⟩
   have:=List.all_eq_true.mp hf i hy.1
   unfold freeSlot at this
   have z : some (fr0.getD i Slot.un)=some (Slot.cell c):=z
   rw [List.getD_eq_getElem?_getD] at z
   cases q : fr0[i]? with
   | none=>rw [q] at z; cases z
   | some s0 =>
    rw [q] at z this
    cases z
    cases this
  ·exact Iff.rfl
 ·rw [zey,if_neg (fun z=>nocell r hcm e z.1)]
theorem RX.chgG {D : Addr} {o : HO} (r : RX X T W H fr σ h) (hd : ∀ a u,H D≠some (zbk a u)) (z : W.Z D=none) (n : W.own D=none) : RX X T W (upd H D o) fr σ h:=by
  have hne : ∀ {p},p≠D→upd H D o p=H p:=fun e=>upd_ne e
  have own_ne : ∀ {p o},W.own p=some o→p≠D:=fun q e=>by rw [e,n] at q; cases q
  have Z_ne : ∀ {p o},W.Z p=some o→p≠D:=fun q e=>by rw [e,z] at q; cases q
  have cu : ∀ {v : Val} {p : Addr},p≠D→Cur (gl X T) W H v p→Cur (gl X T) W (upd H D o) v p:=fun {v p} e c=>by
    cases v with
    | lst l=>obtain ⟨vs,a,b⟩:=c; exact ⟨vs,by rw [hne e]; exact a,b⟩
    | dct l=>obtain ⟨vs,a,b⟩:=c; exact ⟨vs,by rw [hne e]; exact a,b⟩
    | _=>exact c
  refine ⟨⟨r.f.len,fun i s hsl=>?_,r.f.inj⟩,⟨fun p o' q=>?_,fun p o' q=>?_,fun p o' q=>?_,r.h.uni,r.h.oas,r.h.asn,r.h.lι,r.h.lk,fun n o' ho=>?_,fun c v q=>?_,r.h.x.keep (Wle.refl W) (fun _ z=>z) (fun P o=>hne (own_ne o)) rfl (fun a o z=>hne (fun e=>hd a o (by rw [← e]; exact z))) (fun i _ z=>⟨i,z⟩)⟩,r.kk⟩
  · have c:=r.f.at_ i s hsl
    cases s with
    | own v=>obtain ⟨p,a,b,k⟩:=c; exact ⟨p,a,b,cu (own_ne b) k⟩
    | own2 v =>
      obtain ⟨p,a,b,k⟩:=c
      refine ⟨p,a,b,?_⟩
      cases v with
      | lst l =>
        obtain ⟨qs,h1,h2,h3⟩:=k
        exact ⟨qs,by rw [hne (own_ne b)]; exact h1,h2,Paired.imp2 (fun _ q z=>⟨z.1,cu (own_ne z.1) z.2⟩) h3⟩
      | _=>exact k
    | _=>exact c
  · have q':=r.h.zin p o' q
    exact ⟨by rcases q'.rd with e | ⟨od,e⟩
              · exact .inl (by rw [hne (Z_ne q)]; exact e)
              · exact .inr ⟨od,by rw [hne (Z_ne q)]; exact e⟩,q'.no,q'.nf,fun vs e=>by rw [hne (Z_ne q)]; exact q'.ls vs e⟩
  · obtain ⟨u,h1,h2⟩:=r.h.fin p o' q
    exact ⟨u,h1,by rw [hne (Z_ne h1)]; exact h2⟩
  · rw [hne (own_ne q)]; exact r.h.oin p o' q
  · obtain ⟨p,h1,h2,h3⟩:=r.h.objs n o' ho
    refine ⟨p,h1,h2,?_⟩
    cases o' with
    | inst c' fs =>
      obtain ⟨C',dx,vs,hC,hp,hf,hr,hl⟩:=h3
      refine ⟨C',dx,vs,hC,by rw [hne (own_ne h2)]; exact hp,fun g s q=>?_,hr,hl⟩
      have k:=hf g s q
      cases s with
      | own v=>obtain ⟨p,a,b,k⟩:=k; exact ⟨p,a,b,cu (own_ne b) k⟩
      | _=>exact k
    | hl l=>exact cu (v:=.lst l) (own_ne h2) h3
    | hd l=>exact cu (v:=.dct l) (own_ne h2) h3
  · rcases r.h.cells c v q with ⟨i,x,h1,h2,h3⟩ | ⟨h1,a,x,u,h2,h3,h4,h5⟩
    · exact .inl ⟨i,x,h1,h2,h3⟩
    · exact .inr ⟨h1,a,x,u,h2,by rw [hne (fun e=>hd _ _ (by rw [← e]; exact h3))]; exact h3,h4,h5⟩
theorem RX.chg {D : Addr} {xs : List V} {o : HO} (r : RX X T W H fr σ h) (hd : H D=some (.lst xs)) (z : W.Z D=none) (n : W.own D=none) : RX X T W (upd H D o) fr σ h :=
 r.chgG (fun a u e=>by rw [hd] at e; cases e) z n
theorem Evo.chg {D : Addr} {o : HO} {W0 : Wd} {H0 : Hp} (ev : Evo W0 H0 W H) (hn : H0 D=none) : Evo W0 H0 W (upd H D o):=by
 refine ⟨ev.le,fun p o' hp z n=>?_,ev.thaw,ev.asn,ev.hold,fun p q=>?_,ev.zih,ev.zown⟩
 ·obtain ⟨h1,h2⟩:=ev.stay p o' hp z n
  exact ⟨by rw [upd_ne (fun e=>by rw [e,hn] at hp; cases hp)]; exact h1,h2⟩
 ·by_cases e : p=D
  ·rw [e]; exact hn
  ·rw [upd_ne e] at q; exact ev.dom p q
end
end Fx
end
section
set_option maxHeartbeats 4000000
namespace Fx
open PySem PySem.Spec PyProof.Rows L2
theorem bnd_ok {α β : Type} {m : Fr→MH→Res α} {f : α→Fr→MH→Res β} {σ σ' : Fr} {h h' : MH} {a : α} (e : m σ h = .ok a σ' h') : bnd m f σ h=f a σ' h':=by simp only [bnd,e]
theorem zob {α β : Type} {m : Fr→MH→Res α} {f : α→Fr→MH→Res β} {σ σ' : Fr} {h h' : MH} {c : Nat} {x : Option Val} (e : m σ h = .exn c x σ' h') : bnd m f σ h = .exn c x σ' h':=by simp only [bnd,e]
theorem zhr {α β : Type} {m : Fr→MH→Res α} {f : α→Fr→MH→Res β} {σ : Fr} {h : MH} (e : m σ h = .stuck) : bnd m f σ h = .stuck:=by simp only [bnd,e]
def WF : WX:=fun _ _ _ _=>False
section
variable {X : Cx} {T : Tb} {Wx : WX} {W W1 W' : Wd} {H H1 H' : Hp} {σ : St} {fr fr1 : Fr} {h h1 : MH} {e a b c : Expr} {pos : Pos} {t t' : TE} {TT : Tbl} {Cc : Callee} {f : Bool} {tg : Expr}
theorem zfJ {α : Type} {own : List Nat} {p : Pat} {t : Fr→MH→Res Bool} {f : Fr→MH→Res (List α)} {v : Val} {vs : List Val} {fr : Fr} {h : MH} {zs : List α} {frE : Fr} {hE : MH} (e : zd1 own p t f (v :: vs) fr h = .ok zs frE hE) :
  ∃ fr1 h1 b fr2 h2,asg p v fr h=some (fr1,h1)∧t fr1 h1 = .ok b fr2 h2∧((b=true∧∃ ys fr3 h3 zs',f fr2 h2 = .ok ys fr3 h3∧zd1 own p t f vs (wipe own fr3) h3 = .ok zs' frE hE∧zs=ys ++ zs')∨(b=false∧zd1 own p t f vs (wipe own fr2) h2 = .ok zs frE hE)):=by
 simp only [zd1,bnd,asgM] at e
 cases q1 : asg p v fr h with
 | none=>simp only [q1] at e; cases e
 | some fh =>
  obtain ⟨fr1,h1⟩:=fh
  simp only [q1] at e
  cases q2 : t fr1 h1 with
  | exn=>simp only [q2] at e; cases e
  | stuck=>simp only [q2] at e; cases e
  | ok b fr2 h2 =>
   simp only [q2] at e
   refine ⟨fr1,h1,b,fr2,h2,rfl,q2,?_⟩
   cases b with
   | true =>
    simp only [if_true] at e
    cases q3 : f fr2 h2 with
    | exn=>simp only [q3] at e; cases e
    | stuck=>simp only [q3] at e; cases e
    | ok ys fr3 h3 =>
     simp only [q3] at e
     cases q4 : zd1 own p t f vs (wipe own fr3) h3 with
     | exn=>simp only [q4] at e; cases e
     | stuck=>simp only [q4] at e; cases e
     | ok zs' fr4 h4 =>
      simp only [q4,rt] at e
      cases e
      exact .inl ⟨rfl,ys,fr3,h3,zs',rfl,q4,rfl⟩
   | false =>
    simp only [Bool.false_eq_true,if_false,rt] at e
    cases q4 : zd1 own p t f vs (wipe own fr2) h2 with
    | exn=>simp only [q4] at e; cases e
    | stuck=>simp only [q4] at e; cases e
    | ok zs' fr4 h4 =>
     simp only [q4] at e
     cases e
     exact .inr ⟨rfl,rfl⟩
theorem zoN {own vs : List Nat} {σ σ2 : St} (hp : ∀ i∈vs,i∈own) (s : SameBut vs (L2.wipe σ own) σ2) : L2.wipe σ2 own=L2.wipe σ own:=by
 have hl : σ2.length = σ.length:=by rw [s.1,L2.wipe_length]
 refine List.ext_getElem? fun j=>?_
 rw [zey,zey,hl]
 by_cases hj : j∈own∧j < σ.length
 ·rw [if_pos hj,if_pos hj]
 ·rw [if_neg hj,if_neg hj]
  by_cases h1 : j∈own
  ·have : σ.length≤j:=by
    by_cases h2 : j < σ.length
    ·exact absurd ⟨h1,h2⟩ hj
    ·omega
   rw [List.getElem?_eq_none (by omega),List.getElem?_eq_none this]
  ·rw [s.2 j (fun z=>h1 (hp j z)),zey,if_neg hj]
theorem comp_core {J : It} {vs : List Val} {H0 : Hp} {Q : V→Hp→Prop} {ownS : List (Str × Nat)} {x : Exp} {p : Pat} {fs : Exps} (hcm : ∀ i∈ownS.map (·.2),T.cm.c i=none) (hp : ∀ i∈pvars p,i∈ownS.map (·.2)) (r1 : RX X T W1 H1 fr1 σ h1) (dm : ∀ D,H1 D=none→H0 D=none) (wk : zlk X T J W1 vs)
  (a : AfX X T Wx σ (ResR (gl X T) true H0) W1 H1 (inBlock (ownS.map (·.2)) (bnd (zd1 (ownS.map (·.2)) p (evt TT Cc fs) (bnd (ev TT Cc x) fun y=>rt [y]) vs) fun ys=>opt (zcj ys)) fr1 h1) Q) :
  tLc (fun _ _ R=>R J H1) (tG X T p) (tT X T WF (evt TT Cc fs)) (tE X T WF f (ev TT Cc x)) (ownS.map (·.2)) σ H0 Q:=by
 intro D hD
 generalize ownS.map (·.2)=own at hcm hp a ⊢
 unfold inBlock at a
 by_cases hfree : own.all (freeSlot fr1)=true
 ·rw [if_pos hfree] at a
  -- the whole run
  have full : ∃ ys frE hE,zd1 own p (evt TT Cc fs) (bnd (ev TT Cc x) fun y=>rt [y]) vs (wipe own fr1) h1 = .ok ys frE hE∧ys.length≤sizeLine∧AfX X T Wx σ (ResR (gl X T) true H0) W1 H1 (.ok (.lst ys) (restore own fr1 frE) hE) Q:=by
   cases q1 : zd1 own p (evt TT Cc fs) (bnd (ev TT Cc x) fun y=>rt [y]) vs (wipe own fr1) h1 with
   | stuck=>rw [zhr q1] at a; exact a.elim
   | exn=>rw [zob q1] at a; exact a.elim
   | ok ys frE hE =>
    rw [bnd_ok q1] at a
    cases q2 : zcj ys with
    | none=>simp only [opt,q2] at a; exact a.elim
    | some y =>
     obtain ⟨rfl,hl⟩:=zfE q2
     simp only [opt,q2] at a
     exact ⟨ys,frE,hE,rfl,hl,a⟩
  obtain ⟨ys,frE,hE,run,hlen,aE⟩:=full
  let P : Nat→Hp→Prop:=fun i H2=>∃ Wd frc hc acc zs xs,zd1 own p (evt TT Cc fs) (bnd (ev TT Cc x) fun y=>rt [y]) (vs.drop i) frc hc = .ok zs frE hE∧acc ++ zs=ys∧RX X T Wd H2 frc (L2.wipe σ own) hc ∧
   H2 D=some (.lst xs)∧Wd.Z D=none∧Wd.own D=none∧Rps (gl X T) Wd acc xs∧Evo W1 H1 Wd H2
  have rw1:=RX.wiped (own:=own) (σ0:=σ) r1 hcm rfl
  have n1:=(WH.of r1).new hD
  have P0 : P 0 (upd H1 D (.lst [])):=by
   obtain ⟨r2,ev2⟩:=RX.kn rw1 (Ext.upd (o:=.lst []) hD) (Wup.refl _) ((WH.of rw1).up (Ext.upd hD)) zg0
   exact ⟨W1,wipe own fr1,h1,[],ys,[],run,rfl,r2,upd_same,n1.1,n1.2,.nil,ev2⟩
  refine ⟨fun i m H2=>m=vs.length - i∧i≤vs.length∧P i H2,⟨vs.length,by simp,Nat.zero_le _,P0⟩,?_⟩
  rintro i m H2 ⟨rfl,hi,Wd,frc,hc',acc,zs,xs,run2,eacc,rc,hDx,zD,oD,racc,evc⟩
  have wk2:=wk Wd H2 evc.le (WH.of rc)
  by_cases hlt : i < vs.length
  ·have hv : vs[i]? = some vs[i]:=List.getElem?_eq_getElem hlt
   have hd : vs.drop i=vs[i] :: vs.drop (i + 1):=List.drop_eq_getElem_cons hlt
   rw [hd] at run2
   obtain ⟨fr2,h2,bb,fr3,h3,easg,etst,hcase⟩:=zfJ run2
   refine .inr ⟨(wk2.2 i _ hv).1,P (i + 1),fun H' q=>⟨vs.length - (i + 1),by omega,rfl,hlt,q⟩,fun y H' hy=>?_⟩
   obtain ⟨W2,ext,up,wh2,kz,rp⟩:=(wk2.2 i _ hv).2 y H' hy
   obtain ⟨r2,ev2⟩:=RX.kn rc ext up wh2 kz
   refine ⟨W2,frc,hc',vs[i],fr2,h2,r2,rp,easg,fun σ2 rs sb=>?_⟩
   have hw:=zoN hp sb
   refine ⟨hw,W2,fr2,h2,rs,?_⟩
   rw [etst]
   intro W3 b3 H3 ev3 r3 eb
   subst eb
   rcases hcase with ⟨eb,ys',fr4,h4,zs',ef,run3,ez⟩ | ⟨eb,run3⟩
   ·subst eb
    rw [if_pos rfl]
    refine ⟨W3,fr3,h3,r3,?_⟩
    simp only [bnd] at ef
    cases q : ev TT Cc x fr3 h3 with
    | exn=>rw [q] at ef; cases ef
    | stuck=>rw [q] at ef; cases ef
    | ok w fr5 h5 =>
     rw [q] at ef
     simp only [rt] at ef
     cases ef
     intro W4 yv H4 ev4 r4 rr
     obtain ⟨W5,up5,r5,rp5,keep5⟩:=ResR.rp rr r4
     have ev5 : Evo W3 H3 W5 H4:=keep5 W3 ev4
     have evt' : Evo Wd H2 W5 H4:=ev2.trans (ev3.trans ev5)
     obtain ⟨hD4,oD4⟩:=evt'.stay D _ hDx zD oD
     have zD4:=evt'.thaw D _ hDx zD oD
     have hl : xs.length=acc.length:=racc.length.symm
     refine ⟨xs,hD4,?_,?_⟩
     ·have : ys.length=acc.length + (1 + zs'.length):=by rw [← eacc,ez]; simp; omega
      omega
     ·refine ⟨W5,wipe own fr4,h4,acc ++ [w],zs',xs ++ [yv],run3,by rw [← eacc,ez]; simp,?_,upd_same,zD4,oD4,(racc.le evt'.le).append (.cons rp5 .nil),Evo.chg (evc.trans evt') hD⟩
      exact RX.chg (RX.wiped r5 hcm hw) hD4 zD4 oD4
   ·subst eb
    rw [if_neg Bool.false_ne_true]
    have evt' : Evo Wd H2 W3 H3:=ev2.trans ev3
    obtain ⟨hD4,oD4⟩:=evt'.stay D _ hDx zD oD
    have zD4:=evt'.thaw D _ hDx zD oD
    exact ⟨W3,wipe own fr3,h3,acc,zs,xs,run3,eacc,RX.wiped r3 hcm hw,hD4,zD4,oD4,racc.le evt'.le,evc.trans evt'⟩
  ·have ei : i=vs.length:=by omega
   subst ei
   refine .inl ⟨wk2.1 _ rfl,?_⟩
   rw [List.drop_length] at run2
   simp only [zd1] at run2
   cases run2
   rw [List.append_nil] at eacc
   subst eacc
   exact aE Wd (.ref D) H2 evc (RX.restored rc r1 evc hcm hfree) ⟨D,rfl,dm D hD,zD,oD,xs,hDx,racc⟩
 ·rw [if_neg hfree] at a
  exact a.elim
theorem inc_comp {ownS : List (Str × Nat)} {x : Exp} {p : Pat} {it : Iter} {fs : Exps} (hcm : ∀ i∈ownS.map (·.2),T.cm.c i=none) (hp : ∀ i∈pvars p,i∈ownS.map (·.2)) : ∀ σ H Q,tE X T Wx true (ev TT Cc (.comp x (ownS.map (·.2)) p it fs)) σ H Q→tLc (tI X T Wx (evi TT Cc it)) (tG X T p) (tT X T WF (evt TT Cc fs)) (tE X T WF f (ev TT Cc x)) (ownS.map (·.2)) σ H Q:=by
 intro σ H Q q
 simp only [ev] at q
 obtain ⟨W,fr,h,r,a⟩:=q
 exact ⟨W,fr,h,r,bndE a fun J H1 W1 vs fr1 h1 ev1 r1 wk a=>comp_core hcm hp r1 (fun D hD=>ev1.dom D hD) wk a⟩
theorem se_comp {elt iter : Expr} {ifs : List Expr} {scope : Scope} {ownS : List (Str × Nat)} {x : Exp} {p : Pat} {it : Iter} {fs : Exps}
  (hc : X.calm=true) (hN : X.N.Nodup) (hi : SI X T Wx TT Cc tg iter it) (ok : BlkOk X.N X.env.scope scope ownS) (hcm : ∀ i∈ownS.map (·.2),T.cm.c i=none) (hp : ∀ i∈pvars p,i∈ownS.map (·.2))
  (hg : ∀ (s : Shared) (H : Hp) (C : Addr) (cl : List (Str × Addr)) (fp : List Addr),PG (X.blk s H scope (compEnvC scope cl C X.env) fp) tg (tG X T p))
  (ht : ∀ (s : Shared) (H : Hp) (C : Addr) (cl : List (Str × Addr)) (fp : List Addr),PTs (X.blk s H scope (compEnvC scope cl C X.env) fp) ifs (tT X T WF (evt TT Cc fs)))
  (he : ∀ (s : Shared) (H : Hp) (C : Addr) (cl : List (Str × Addr)) (fp : List Addr),PE (X.blk s H scope (compEnvC scope cl C X.env) fp) elt (tE X T WF f (ev TT Cc x)))
  (hs : ∀ x,foldedSetIterable iter X.env x=pure x:=by intro _; rfl) :
  SE X T Wx TT Cc true (.ListComp elt [⟨tg,iter,ifs,0⟩] scope pos) (.comp x (ownS.map (·.2)) p it fs) :=
 PE.wk (pe_lc hc hN hi ok hg ht he hs) (inc_comp hcm hp)
theorem sts_nil {Y : Cx} : PTs Y [] (tT X T Wx (evt TT Cc .nil)):=⟨fun pins s σ H Q I q=>pts_nil.run pins s σ H Q I (by
 obtain ⟨W,fr,h,r,a⟩:=q
 simp only [evt,rt] at a
 exact a W true H (Evo.refl _ _) r rfl)⟩
end
end Fx
end
section
set_option maxHeartbeats 4000000
namespace Fx
open PySem PySem.Spec PyProof.Rows L2
structure En where
 W0 : Wd
 H0 : Hp
 fr : Bool
 lent : List Nat
 σ0 : St
 sl : ∀ p j,W0.own p=some (.slot j)→j∈lent
def En.keep (E : En) (σ : St) : Prop:=∀ i∈E.lent,σ[i]? = E.σ0[i]?
theorem En.keep_but {E : En} {σ σ' : St} {vs : List Nat} (k : E.keep σ) (s : SameBut vs σ σ') (hv : ∀ i∈vs,i ∉ E.lent) : E.keep σ':=fun i hi=>by
 rw [s.2 i (fun z=>hv i z hi)]; exact k i hi
def AfS (X : Cx) (T : Tb) (Wx : WX) (E : En) (W : Wd) (H : Hp) (r : SRes) (D : Ends) : Prop :=
 match r with
 | .nx fr' h'=>∀ W' σ' H',Evo W H W' H'→RX X T W' H' fr' σ' h'→E.keep σ'→D.nx σ' H'
 | .brk fr' h'=>∀ W' σ' H',Evo W H W' H'→RX X T W' H' fr' σ' h'→E.keep σ'→D.bk σ' H'
 | .cont fr' h'=>∀ W' σ' H',Evo W H W' H'→RX X T W' H' fr' σ' h'→E.keep σ'→D.ct σ' H'
 | .ret v fr' h'=>∀ W' x σ' H',Evo W H W' H'→RX X T W' H' fr' σ' h'→E.keep σ'→ResR (gl X T) E.fr E.H0 W' H' v x→D.rt x H'
 | .exn c x fr' h'=>∀ W' cls d σ' H',Evo W H W' H'→RX X T W' H' fr' σ' h'→E.keep σ'→T.ExR W' H' c x cls d→Wx cls d σ' H'
 | .stuck=>False
def tS (X : Cx) (T : Tb) (Wx : WX) (E : En) (m : Fr→MH→SRes) : TS:=fun D σ H=>∃ W fr h,RX X T W H fr σ h∧E.keep σ∧Evo E.W0 E.H0 W H∧AfS X T Wx E W H (m fr h) D
section
variable {X : Cx} {T : Tb} {Wx : WX} {E : En} {W W1 W' : Wd} {H H1 H' : Hp} {σ : St} {fr fr1 : Fr} {h h1 : MH} {e a b c : Expr} {pos : Pos} {TT : Tbl} {C : Callee} {f : Bool} {tg : Expr} {st : Stmt} {rest : List Stmt}
theorem zkh {t t' : TS} (p : PS X st t) (k : ∀ D σ H,t' D σ H→t D σ H) : PS X st t':=⟨fun pins s σ H D I q=>p.run pins s σ H D I (k _ _ _ q)⟩
theorem pss_wk {t t' : TS} (p : PSs X rest t) (k : ∀ D σ H,t' D σ H→t D σ H) : PSs X rest t':=⟨fun pins s σ H D I q=>p.run pins s σ H D I (k _ _ _ q)⟩
theorem AfS.evo {r : SRes} {D : Ends} (a : AfS X T Wx E W H r D) (e : Evo W H W1 H1) : AfS X T Wx E W1 H1 r D:=by
 cases r with
 | nx fr' h'=>exact fun W' σ' H' ev=>a W' σ' H' (e.trans ev)
 | brk fr' h'=>exact fun W' σ' H' ev=>a W' σ' H' (e.trans ev)
 | cont fr' h'=>exact fun W' σ' H' ev=>a W' σ' H' (e.trans ev)
 | ret v fr' h'=>exact fun W' x σ' H' ev=>a W' x σ' H' (e.trans ev)
 | exn c x fr' h'=>exact fun W' cls d σ' H' ev=>a W' cls d σ' H' (e.trans ev)
 | stuck=>exact a
abbrev SS (X : Cx) (T : Tb) (Wx : WX) (E : En) (TT : Tbl) (C : Callee) (st : Stmt) (s : Stm) : Prop:=PS X st (tS X T Wx E (ex TT C s))
abbrev SSs (X : Cx) (T : Tb) (Wx : WX) (E : En) (TT : Tbl) (C : Callee) (st : List Stmt) (s : Stms) : Prop:=PSs X st (tS X T Wx E (exs TT C s))
theorem zaI : SSs X T Wx E TT C [] .nil:=by
 refine pss_wk pss_nil fun D σ H ⟨W,fr,h,r,k,ev,a⟩=>?_
 simp only [exs] at a
 exact a W σ H (Evo.refl _ _) r k
theorem za7 {s : Stm} {ss : Stms} (h1 : SS X T Wx E TT C st s) (h2 : SSs X T Wx E TT C rest ss) : SSs X T Wx E TT C (st :: rest) (.cons s ss):=by
 refine pss_wk (pss_cons h1 h2) fun D σ H ⟨W,fr,h,r,k,ev,a⟩=>⟨W,fr,h,r,k,ev,?_⟩
 simp only [exs,seqS] at a
 cases q : ex TT C s fr h with
 | nx fr1 h1 =>
  simp only [q] at a
  exact fun W' σ' H' ev' r' k'=>⟨W',fr1,h1,r',k',ev.trans ev',AfS.evo a ev'⟩
 | brk fr1 h1=>simp only [q] at a; exact a
 | cont fr1 h1=>simp only [q] at a; exact a
 | ret v fr1 h1=>simp only [q] at a; exact a
 | exn c x fr1 h1=>simp only [q] at a; exact a
 | stuck=>simp only [q] at a; exact a
theorem ofE {α β : Type} {Rel : Wd→Hp→α→β→Prop} {m : Fr→MH→Res α} {g : α→Fr→MH→SRes} {D : Ends} {Q : β→Hp→Prop} (hk : E.keep σ) (a : AfS X T Wx E W H (zaZ m g fr h) D)
  (k : ∀ b H1 W1 v fr1 h1,Evo W H W1 H1→RX X T W1 H1 fr1 σ h1→Rel W1 H1 v b→AfS X T Wx E W H (g v fr1 h1) D→Q b H1) : AfX X T Wx σ Rel W H (m fr h) Q:=by
 unfold zaZ at a
 cases q : m fr h with
 | ok v fr1 h1 =>
  simp only [q] at a
  exact fun W' b H' ev r' rl=>k b H' W' v fr1 h1 ev r' rl a
 | exn c x fr1 h1 =>
  simp only [q] at a
  exact fun W' cls d H' ev r' ex=>a W' cls d σ H' ev r' hk ex
 | stuck=>simp only [q] at a; exact a.elim
theorem ss_asg {x : Exp} {p : Pat} (ha : SE X T Wx TT C f a x) (hg : PG X tg (tG X T p)) (hl : ∀ i∈pvars p,i ∉ E.lent) (hs : swapsWithSole [tg] a pos.line X.env=pure false:=by rfl) (hw : swappedStores [tg] a X.env=pure none:=by rfl)
  (h1 : (assignEach [tg] X.env).map (·.2) = [assign tg X.env]:=by rfl) : SS X T Wx E TT C (.Assign [tg] a pos) (.asg p x):=by
 refine zkh (ps_asg (PE.un ha) hg hs hw h1) fun D σ H ⟨W,fr,h,r,k,ev,a⟩=>?_
 simp only [ex] at a
 refine ⟨W,fr,h,r,ofE k a fun y H1 W1 v fr1 h1 ev1 r1 rr a=>?_⟩
 replace a:=AfS.evo a ev1
 simp only [zaZ,asgM] at a
 cases q : asg p v fr1 h1 with
 | none=>simp only [q] at a; exact a.elim
 | some fh =>
  obtain ⟨fr2,h2⟩:=fh
  simp only [q] at a
  exact ⟨W1,fr1,h1,v,fr2,h2,r1,rr,q,fun σ' r' s'=>a W1 σ' H1 (Evo.refl _ _) r' (En.keep_but k s' hl)⟩
theorem zoL {x : Exp} {p q : Stms} {pa qa : List Stmt} (hc : ST X T Wx TT C c x) (ha : SSs X T Wx E TT C pa p) (hb : SSs X T Wx E TT C qa q) : SS X T Wx E TT C (.If c pa qa pos) (.ite x p q):=by
 refine zkh (ps_if hc ha hb) fun D σ H ⟨W,fr,h,r,k,ev,a⟩=>?_
 simp only [ex] at a
 refine ⟨W,fr,h,r,ofE (Rel:=fun _ _ a b=>a=b) (m:=mT TT C x) k a fun y H1 W1 v fr1 h1 ev1 r1 rr a=>?_⟩
 replace a:=AfS.evo a ev1
 subst rr
 cases v with
 | true=>exact ⟨W1,fr1,h1,r1,k,ev.trans ev1,a⟩
 | false=>exact ⟨W1,fr1,h1,r1,k,ev.trans ev1,a⟩
theorem ze2 {x : Exp} (hf : E.fr=false) (ha : SE X T Wx TT C f a x) : SS X T Wx E TT C (.Return (some a) pos) (.ret x):=by
 refine zkh (ps_ret (PE.un ha)) fun D σ H ⟨W,fr,h,r,k,ev,a⟩=>?_
 simp only [ex] at a
 refine ⟨W,fr,h,r,ofE (Rel:=ResR (gl X T) false H) k a fun y H1 W1 v fr1 h1 ev1 r1 rr a=>?_⟩
 refine a W1 y σ H1 ev1 r1 k ?_
 rw [hf]
 exact rr
theorem ss_retF {x : Exp} (hf : E.fr=true) (ha : SE X T Wx TT C true a x) : SS X T Wx E TT C (.Return (some a) pos) (.ret x):=by
 refine zkh (ps_ret ha) fun D σ H ⟨W,fr,h,r,k,ev,a⟩=>?_
 simp only [ex] at a
 refine ⟨W,fr,h,r,ofE (Rel:=ResR (gl X T) true H) k a fun y H1 W1 v fr1 h1 ev1 r1 rr a=>?_⟩
 refine a W1 y σ H1 ev1 r1 k ?_
 rw [hf]
 exact ResR.dom (fun p n=>ev.dom p n) rr
end
end Fx
end
section
set_option maxHeartbeats 4000000
namespace Fx
open PySem PySem.Spec PyProof.Rows L2
def Wd.take (W : Wd) (p : Addr) (r : zaB) : Wd:={ W with own:=fun q=>if q=p then some r else W.own q }
section
variable {X : Cx} {T : Tb} {Wx : WX} {E : En} {W W1 W' : Wd} {H H1 H' : Hp} {σ : St} {fr fr1 : Fr} {h h1 : MH} {e a b c : Expr} {pos : Pos} {TT : Tbl} {C : Callee} {f : Bool} {tg : Expr} {st : Stmt} {rest : List Stmt} {p : Addr} {r : zaB}
theorem zbR : Wle W (W.take p r):=⟨fun _ _ h=>h,fun _ _ h=>h,fun _ _ h=>h,fun _ _ h=>h,fun _ _ _ h=>h,fun _ _=>Iff.rfl,fun _ _ h=>h⟩
theorem zjw : (W.take p r).own p=some r:=if_pos rfl
theorem zeq {q : Addr} (e : q≠p) : (W.take p r).own q=W.own q:=if_neg e
theorem take_evo {W0 : Wd} {H0 : Hp} (ev : Evo W0 H0 W H) (hn : H0 p=none) (z : W.Z p=none) (hr : ∀ a f,r = .fld a f→¬ W0.asn a f) : Evo W0 H0 (W.take p r) H:=by
  have ne : ∀ {q o},H0 q=some o→q≠p:=fun h e=>by rw [e,hn] at h; cases h
  refine ⟨ev.le.trans zbR,fun q o hq zq n=>?_,ev.thaw,ev.asn,fun a f q as o=>?_,ev.dom,fun q o r1 r2 hq h1 h2=>?_,fun q o zq n=>?_⟩
  · obtain ⟨h1,h2⟩:=ev.stay q o hq zq n
    exact ⟨h1,by rw [zeq (ne hq)]; exact h2⟩
  · by_cases e : q=p
    · subst e
      rw [zjw] at o
      exact absurd as (hr a f (Option.some.inj o))
    · rw [zeq e] at o; exact ev.hold a f q as o
  · rw [zeq (ne hq)] at h2
    exact ev.zih q o r1 r2 hq h1 h2
  · rw [zeq (fun e=>by have:=ev.le.Z q o zq; rw [e,z] at this; cases this)]
    exact ev.zown q o zq n
theorem take_R (rx : RX X T W H fr σ h) (z : W.Z p=none) (n : W.own p=none) (hp : H p≠none) (hr : ∀ a f,r≠.fld a f) : RX X T (W.take p r) H fr σ h:=by
 have own_ne : ∀ {q o},W.own q=some o→q≠p:=fun h e=>by rw [e,n] at h; cases h
 have keep : ∀ {q o},W.own q=some o→(W.take p r).own q=some o:=fun h=>by rw [zeq (own_ne h)]; exact h
 have inv : ∀ {q a f},(W.take p r).own q=some (.fld a f)→W.own q=some (.fld a f):=fun {q a f} h=>by
  by_cases e : q=p
  ·subst e; rw [zjw] at h; exact absurd (Option.some.inj h) (hr a f)
  ·rw [zeq e] at h; exact h
 refine ⟨⟨rx.f.len,fun i s hs=>?_,rx.f.inj⟩,⟨fun q o hq=>⟨(rx.h.zin q o hq).rd,?_,(rx.h.zin q o hq).nf,(rx.h.zin q o hq).ls⟩,rx.h.fin,fun q o hq=>?_,fun q q' a f h1 h2=>rx.h.uni q q' a f (inv h1) (inv h2),fun q a f h1=>rx.h.oas q a f (inv h1),rx.h.asn,rx.h.lι,rx.h.lk,fun n' o ho=>?_,zo9 (W':=W.take p r) (H:=H) (σ':=σ) (fr':=fr) zbR rx.h.cells,rx.h.x.same zbR (fun P o=>keep o) rfl⟩,zpx zbR rx.kk⟩
 ·have c:=rx.f.at_ i s hs
  cases s with
  | un=>trivial
  | val v=>obtain ⟨x,a,b⟩:=c; exact ⟨x,a,b.le zbR⟩
  | own v=>obtain ⟨q,a,b,k⟩:=c; exact ⟨q,a,keep b,k.up zbR⟩
  | own2 v =>
   obtain ⟨q,a,b,k⟩:=c
   refine ⟨q,a,keep b,?_⟩
   cases v with
   | lst l =>
    obtain ⟨qs,h1,h2,h3⟩:=k
    exact ⟨qs,h1,h2,Paired.imp2 (fun _ q z=>⟨keep z.1,z.2.up zbR⟩) h3⟩
   | _=>exact k
  | cell c'=>exact c
  | exc c' v=>obtain ⟨x,a,b⟩:=c; exact ⟨x,a,b.le zbR⟩
 ·rw [zeq (fun e=>by have hq : W.Z q=some o:=hq; rw [e,z] at hq; cases hq)]; exact (rx.h.zin q o hq).no
 ·by_cases e : q=p
  ·rw [e]; exact hp
  ·rw [zeq e] at hq; exact rx.h.oin q o hq
 ·obtain ⟨q,h1,h2,h3⟩:=rx.h.objs n' o ho
  refine ⟨q,h1,keep h2,?_⟩
  cases o with
  | inst c' fs =>
   obtain ⟨C',dx,vs,hC,hp',hf,hr',hl⟩:=h3
   refine ⟨C',dx,vs,hC,hp',fun g s q=>?_,hr',hl⟩
   have k:=hf g s q
   cases s with
   | val v=>obtain ⟨x,a,b⟩:=k; exact ⟨x,a,b.le zbR⟩
   | own v=>obtain ⟨p,a,b,k⟩:=k; exact ⟨p,a,keep b,k.up zbR⟩
   | _=>exact k
  | hl l=>exact Cur.up (v:=.lst l) zbR h3
  | hd l=>exact Cur.up (v:=.dct l) zbR h3
theorem fresh_of {v : Val} {x : V} {H0 : Hp} (hv : isLD v=true) (rr : ResR (gl X T) true H0 W H v x) : zd5 (gl X T) H0 W H v x:=by
 cases v with
 | lst l=>exact rr
 | dct l=>exact rr
 | _=>cases hv
theorem ss_setO {x : Exp} {i : Nat} {te : TE} (hp : PS X st (tAsg te (gName i))) (hw : ∀ σ H Q,tE X T Wx true (ev TT C x) σ H Q→te σ H Q) (hl : i ∉ E.lent) : SS X T Wx E TT C st (.setO i x):=by
 refine zkh hp fun D σ H ⟨W,fr,h,r,k,ev,a⟩=>hw σ H _ ⟨W,fr,h,r,?_⟩
 simp only [ex] at a
 refine ofE (Rel:=ResR (gl X T) true H) k a fun y H1 W1 v fr1 h1 ev1 r1 rr a=>?_
 by_cases hok : (zbU fr1 i && isLD v)=true
 ·rw [if_pos hok] at a
  rw [Bool.and_eq_true_iff] at hok
  obtain ⟨p,rfl,hn,z,n,cu⟩:=fresh_of hok.2 rr
  have hpn : H1 p≠none:=by
   cases v with
   | lst l=>obtain ⟨vs,e,_⟩:=cu; rw [e]; exact nofun
   | dct l=>obtain ⟨vs,e,_⟩:=cu; rw [e]; exact nofun
   | _=>exact cu.elim
  obtain ⟨s,hs,hc⟩:=zgY hok.1
  have r2:=take_R (r:=.slot i) r1 z n hpn (fun _ _=>nofun)
  have hlt : i < σ.length:=by rw [← r1.f.len]; exact (List.getElem?_eq_some_iff.mp hs).1
  have r3:=r2.setS (s':=.own v) (y:=some (.ref p)) hs hc (fun _=>nofun) ⟨p,List.getElem?_set_self hlt,zjw,cu.up zbR⟩
  have evT : Evo W H (W1.take p (.slot i)) H1:=take_evo ev1 hn z (fun _ _=>nofun)
  exact a _ _ H1 evT r3 (En.keep_but (vs:=[i]) k ⟨by simp,fun j hj=>List.getElem?_set_ne (fun z=>hj (by simp [z]))⟩ (fun j hj=>by simp at hj; rw [hj]; exact hl))
 ·rw [if_neg hok] at a; exact a.elim
end
end Fx
end
section
set_option maxHeartbeats 4000000
namespace Fx
open PySem PySem.Spec PyProof.Rows L2
section
variable {X : Cx} {T : Tb} {Wx : WX} {E : En} {W W1 W' : Wd} {H H1 H' : Hp} {σ : St} {fr fr1 : Fr} {h h1 : MH} {e a b c : Expr} {pos : Pos} {TT : Tbl} {C : Callee} {f : Bool} {tg : Expr} {st : Stmt} {rest : List Stmt}
theorem ss_for {it : Iter} {p : Pat} {iter : Expr} {body : List Stmt} {ss : Stms} (hp : PassesOwn (model X.prog X.w) X.A X.env X.xe) (hc : X.calm=true) (hi : SI X T Wx TT C tg iter it) (hg : PG X tg (tG X T p)) (hb : SSs X T Wx E TT C body ss) (hl : ∀ i∈pvars p,i ∉ E.lent)
  (hs : ∀ x,foldedSetIterable iter X.env x=pure x:=by intro _; rfl) : SS X T Wx E TT C (.For tg iter body [] pos) (.for p it ss):=by
 refine zkh (ps_for hp hc hi hg hb hs) fun D σ H ⟨W,fr,h,r,k,ev,a⟩=>⟨W,fr,h,r,?_⟩
 simp only [ex] at a
 refine ofE k a fun J H1 W1 vs fr1 h1 ev1 r1 wk a=>?_
 let P : Nat→St→Hp→Prop:=fun i σ H2=>∃ Wd frc hc,RX X T Wd H2 frc σ hc∧E.keep σ∧Evo E.W0 E.H0 Wd H2∧Evo W1 H1 Wd H2∧AfS X T Wx E Wd H2 (forL p (exs TT C ss) (vs.drop i) frc hc) D
 have P0 : P 0 σ H1:=⟨W1,fr1,h1,r1,k,ev.trans ev1,Evo.refl _ _,AfS.evo a ev1⟩
 refine ⟨fun i m σ H2=>m=vs.length - i∧i≤vs.length∧P i σ H2,⟨vs.length,by simp,Nat.zero_le _,P0⟩,?_⟩
 rintro i m σ2 H2 ⟨rfl,hi,Wd,frc,hc',rc,kc,evE,evc,a⟩
 have wk2:=wk Wd H2 evc.le (WH.of rc)
 by_cases hlt : i < vs.length
 ·have hv : vs[i]? = some vs[i]:=List.getElem?_eq_getElem hlt
  have hd : vs.drop i=vs[i] :: vs.drop (i + 1):=List.drop_eq_getElem_cons hlt
  rw [hd] at a
  simp only [forL] at a
  refine .inr ⟨(wk2.2 i _ hv).1,P (i + 1),fun σ' H' q=>⟨vs.length - (i + 1),by omega,rfl,hlt,q⟩,fun y H' hy=>?_⟩
  obtain ⟨W2,ext,up,wh2,kz,rp⟩:=(wk2.2 i _ hv).2 y H' hy
  obtain ⟨r2,ev2⟩:=RX.kn rc ext up wh2 kz
  cases q : asg p vs[i] frc hc' with
  | none=>simp only [q] at a; exact a.elim
  | some fh =>
   obtain ⟨fr2,h2⟩:=fh
   simp only [q] at a
   refine ⟨W2,frc,hc',vs[i],fr2,h2,r2,rp,q,fun σ3 rs sb=>?_⟩
   have k3:=En.keep_but kc sb hl
   refine ⟨W2,fr2,h2,rs,k3,evE.trans ev2,?_⟩
   replace a:=AfS.evo a ev2
   cases q2 : exs TT C ss fr2 h2 with
   | nx fr3 h3 =>
    simp only [q2] at a
    exact fun W' σ' H' ev' r' k'=>⟨W',fr3,h3,r',k',(evE.trans ev2).trans ev',(evc.trans ev2).trans ev',AfS.evo a ev'⟩
   | cont fr3 h3 =>
    simp only [q2] at a
    exact fun W' σ' H' ev' r' k'=>⟨W',fr3,h3,r',k',(evE.trans ev2).trans ev',(evc.trans ev2).trans ev',AfS.evo a ev'⟩
   | brk fr3 h3=>simp only [q2] at a; exact a
   | ret v fr3 h3=>simp only [q2] at a; exact a
   | exn c x fr3 h3=>simp only [q2] at a; exact a
   | stuck=>simp only [q2] at a; exact a
 ·have ei : i=vs.length:=by omega
  subst ei
  refine .inl ⟨wk2.1 _ rfl,?_⟩
  rw [List.drop_length] at a
  simp only [forL] at a
  exact a Wd σ2 H2 (Evo.refl _ _) rc kc
end
end Fx
end
section
set_option maxHeartbeats 4000000
namespace Fx
open PySem PySem.Spec PyProof.Rows L2
section
variable {X : Cx} {T : Tb} {Wx : WX} {E : En} {W W1 W' : Wd} {H H1 H' : Hp} {σ : St} {fr fr1 : Fr} {h h1 : MH} {p : Addr} {r : zaB} {o' : HO}
theorem zeJ {v : Val} {q : Addr} (e : q≠p) (c : Cur (gl X T) W H v q) : Cur (gl X T) W (upd H p o') v q:=by
 cases v with
 | lst l=>obtain ⟨vs,a,b⟩:=c; exact ⟨vs,by rw [upd_ne e]; exact a,b⟩
 | dct l=>obtain ⟨vs,a,b⟩:=c; exact ⟨vs,by rw [upd_ne e]; exact a,b⟩
 | _=>exact c
theorem zcc {v : Val} {q : Addr} {a : Addr} {u : Obj} (c : Cur (gl X T) W H v q) : H q≠some (zbk a u):=by
 cases v with
 | lst l=>obtain ⟨vs,e,b⟩:=c; rw [e]; exact nofun
 | dct l=>obtain ⟨vs,e,b⟩:=c; rw [e]; exact fun z=>b.nfrz _ _ (Option.some.inj z)
 | _=>exact c.elim
theorem zbO.upd {i : Nat} {s : Slot} (ow : W.own p=some r) (h1 : r≠.slot i) (h2 : r≠.sub i) (c : zbO (gl X T) W H X.N T.cm σ i s) : zbO (gl X T) W (upd H p o') X.N T.cm σ i s:=by
 have ne : ∀ {q o},W.own q=some o→o≠r→q≠p:=fun e k z=>by rw [z,ow] at e; cases e; exact k rfl
 cases s with
 | own v=>obtain ⟨q,a,b,k⟩:=c; exact ⟨q,a,b,zeJ (ne b fun z=>h1 z.symm) k⟩
 | own2 v =>
  obtain ⟨q,a,b,k⟩:=c
  refine ⟨q,a,b,?_⟩
  cases v with
  | lst l =>
   obtain ⟨qs,h3,h4,h5⟩:=k
   exact ⟨qs,by rw [upd_ne (ne b fun z=>h1 z.symm)]; exact h3,h4,Paired.imp2 (fun _ q z=>⟨z.1,zeJ (ne z.1 fun z=>h2 z.symm) z.2⟩) h5⟩
  | _=>exact k
 | _=>exact c
theorem FldR.upd {a f : Nat} {vs : List (Str × V)} {s : Slot} (ow : W.own p=some r) (h1 : r≠.fld a f) (c : FldR (gl X T) W H a f vs s) : FldR (gl X T) W (upd H p o') a f vs s:=by
 cases s with
 | own v=>obtain ⟨q,e,b,k⟩:=c; exact ⟨q,e,b,zeJ (fun z=>by rw [z,ow] at b; cases b; exact h1 rfl) k⟩
 | _=>exact c
theorem zn3 (ow : W.own p=some r) (hp : H p≠none) : Evo W H W (upd H p o'):=by
 refine ⟨Wle.refl W,fun q o hq _ n=>⟨by rw [upd_ne (fun e=>by rw [e,ow] at n; cases n)]; exact hq,n⟩,fun _ _ _ z _=>z,fun _ _ h=>h,fun _ _ _ _ h=>h,fun q hq=>?_,fun _ _ r r' _ a b=>by rw [a] at b; cases b; rfl,fun _ _ _ n=>n⟩
 by_cases e : q=p
 ·rw [e,upd_same] at hq; cases hq
 ·rw [upd_ne e] at hq; exact hq
theorem zqs (rx : RX X T W H fr σ h) (ow : W.own p=some r) : (∀ q o,W.Z q=some o→ZinR (upd H p o') W q o)∧(∀ q od,W.F q=some od→∃ u,W.Z q=some u∧(upd H p o') q=some (.frz od u))∧(∀ q r',W.own q=some r'→(upd H p o') q≠none):=by
  have Z_ne : ∀ {q o},W.Z q=some o→q≠p:=fun z e=>by have:=(rx.h.zin _ _ z).no; rw [e,ow] at this; cases this
  refine ⟨fun q o z=>?_,fun q od z=>?_,fun q r' e=>?_⟩
  · have q':=rx.h.zin q o z
    exact ⟨by rcases q'.rd with e | ⟨od,e⟩
              · exact .inl (by rw [upd_ne (Z_ne z)]; exact e)
              · exact .inr ⟨od,by rw [upd_ne (Z_ne z)]; exact e⟩,q'.no,q'.nf,fun vs e=>by rw [upd_ne (Z_ne z)]; exact q'.ls vs e⟩
  · obtain ⟨u,h1,h2⟩:=rx.h.fin q od z
    exact ⟨u,h1,by rw [upd_ne (Z_ne h1)]; exact h2⟩
  · by_cases z : q=p
    · rw [z,upd_same]; exact nofun
    · rw [upd_ne z]; exact rx.h.oin q r' e
theorem zjQ {h' : MH} {fr' : Fr} (rx : RX X T W H fr σ h) (nc : ∀ a u,H p≠some (zbk a u)) (hc : h'.cells=h.cells) (hf : ∀ (i c : Nat),fr'[i]? = some (Slot.cell c)↔fr[i]? = some (Slot.cell c)) :
  ∀ (c : Nat) v,h'.cells[c]? = some (some v)→(∃ (i : Nat) (x : V),fr'[i]? = some (Slot.cell c)∧σ[i]? = some (some x)∧Rp (gl X T) W v x) ∨
  ((∀ i : Nat,fr'[i]?≠some (Slot.cell c))∧∃ a x u,W.κ[c]? = some a∧(upd H p o') a=some (zbk a u)∧RelC x u∧Rp (gl X T) W v x):=by
 intro c v q
 rw [hc] at q
 rcases rx.h.cells c v q with ⟨i,x,h1,h2,h3⟩ | ⟨h1,a,x,u,h2,h3,h4,h5⟩
 ·exact .inl ⟨i,x,(hf i c).mpr h1,h2,h3⟩
 ·exact .inr ⟨fun i z=>h1 i ((hf i c).mp z),a,x,u,h2,by rw [upd_ne (fun e=>nc a u (by rw [← e]; exact h3))]; exact h3,h4,h5⟩
theorem put_slot {i : Nat} {v w : Val} (rx : RX X T W H fr σ h) (hs : fr[i]? = some (.own v)) (hv : σ[i]? = some (some (.ref p))) (ow : W.own p=some (.slot i)) (cv : Cur (gl X T) W H v p) (cw : Cur (gl X T) W (upd H p o') w p) : RX X T W (upd H p o') (fr.set i (.own w)) σ h:=by
  have hl : i < fr.length:=(List.getElem?_eq_some_iff.mp hs).1
  obtain ⟨z1,z2,z3⟩:=zqs (o':=o') rx ow
  have cf : ∀ (j c : Nat),(fr.set i (.own w))[j]? = some (Slot.cell c)↔fr[j]? = some (Slot.cell c):=fun j c=>by
    by_cases e : j=i
    · subst e
      rw [List.getElem?_set_self hl,hs]
      exact ⟨(fun z=>nomatch z),(fun z=>nomatch z)⟩
    · rw [List.getElem?_set_ne (fun z=>e z.symm)]
  refine ⟨⟨by simp [rx.f.len],fun j s e=>?_,fun j k c e1 e2=>rx.f.inj j k c ((cf j c).mp e1) ((cf k c).mp e2)⟩,⟨z1,z2,z3,rx.h.uni,rx.h.oas,rx.h.asn,rx.h.lι,rx.h.lk,fun n o ho=>?_,zjQ (o':=o') rx (fun a u=>zcc cv) rfl cf,rx.h.x.keep (Wle.refl W) (fun _ z=>z) (fun P o=>upd_ne (fun z=>by rw [z,ow] at o; cases o)) rfl (fun a o z=>upd_ne (fun e=>zcc cv (by rw [← e]; exact z))) (fun j c z=>⟨j,(cf j c).mpr z⟩)⟩,rx.kk⟩
  · by_cases ej : j=i
    · subst ej
      rw [List.getElem?_set_self hl] at e; cases e
      exact ⟨p,hv,ow,cw⟩
    · rw [List.getElem?_set_ne (fun z=>ej z.symm)] at e
      exact zbO.upd ow (fun z=>by cases z; exact ej rfl) (fun z=>nomatch z) (rx.f.at_ j s e)
  · obtain ⟨q,h1,h2,h3⟩:=rx.h.objs n o ho
    have hq : q≠p:=fun e=>by rw [e,ow] at h2; cases h2
    refine ⟨q,h1,h2,?_⟩
    cases o with
    | inst c' fs =>
      obtain ⟨C',dx,vs,hC,hp,hf,hr',hl'⟩:=h3
      exact ⟨C',dx,vs,hC,by rw [upd_ne hq]; exact hp,fun g s e=>FldR.upd ow (fun z=>nomatch z) (hf g s e),hr',hl'⟩
    | hl l=>exact zeJ (v:=.lst l) hq h3
    | hd l=>exact zeJ (v:=.dct l) hq h3
theorem putFl_len (fs : List (Nat × Slot)) (g : Nat) (s : Slot) (h : ∃ t,zkD fs g=some t) : (zoW fs g s).length=fs.length:=by
 unfold zkD at h
 induction fs with
 | nil=>obtain ⟨t,ht⟩:=h; cases ht
 | cons p r ih =>
  obtain ⟨k,u⟩:=p
  obtain ⟨t,ht⟩:=h
  unfold zoW
  by_cases ek : k=g
  ·rw [if_pos ek]; rfl
  ·rw [if_neg ek]
   have : (g == k)=false:=by simpa using fun z=>ek z.symm
   simp only [List.lookup,this] at ht
   rw [List.length_cons,List.length_cons,ih ⟨t,ht⟩]
theorem zn8 {h h' : MH} {n g : Nat} {s : Slot} (e : setField h n g s=some h') : ∃ c fs,h.objs[n]? = some (.inst c fs)∧h' = { h with objs:=h.objs.set n (.inst c (zoW fs g s)) }:=by
 unfold setField at e
 cases ho : h.objs[n]? with
 | none=>rw [ho] at e; cases e
 | some o =>
  rw [ho] at e
  cases o with
  | inst c fs=>cases e; exact ⟨c,fs,rfl,rfl⟩
  | _=>cases e
theorem put_fld {n g : Nat} {v w : Val} {h' : MH} (rx : RX X T W H fr σ h) (hs : fieldOf h n g=some (.own v)) (e' : setField h n g (.own w)=some h') (ow : W.own p=some (.fld n g)) (cv : Cur (gl X T) W H v p) (cw : Cur (gl X T) W (upd H p o') w p) : RX X T W (upd H p o') fr σ h':=by
 obtain ⟨z1,z2,z3⟩:=zqs (o':=o') rx ow
 obtain ⟨c,fs,ho,rfl⟩:=zn8 e'
 have hlk : zkD fs g=some (.own v):=by
  unfold fieldOf at hs
  rw [ho] at hs
  exact hs
 have hlen : n < h.objs.length:=(List.getElem?_eq_some_iff.mp ho).1
 refine ⟨⟨rx.f.len,fun j s e=>zbO.upd ow (fun z=>nomatch z) (fun z=>nomatch z) (rx.f.at_ j s e),rx.f.inj⟩,⟨z1,z2,z3,rx.h.uni,rx.h.oas,fun a f=>?_,?_,rx.h.lk,fun a o ho'=>?_,zjQ (o':=o') rx (fun a u=>zcc cv) rfl (fun _ _=>Iff.rfl),rx.h.x.keep (Wle.refl W) (fun _ z=>z) (fun P o=>upd_ne (fun z=>by rw [z,ow] at o; cases o)) rfl (fun a o z=>upd_ne (fun e=>zcc cv (by rw [← e]; exact z))) (fun i _ z=>⟨i,z⟩)⟩,rx.kk⟩
 ·rw [rx.h.asn a f,zrl e' a f]
  by_cases z : a=n∧f=g
  ·rw [if_pos z,z.1,z.2,hs]; simp
  ·rw [if_neg z]
 ·rw [rx.h.lι]; simp
 ·dsimp only at ho'
  by_cases ea : a=n
  ·rw [ea] at ho' ⊢
   rw [List.getElem?_set_self hlen] at ho'
   cases ho'
   obtain ⟨q,h1,h2,C',dx,vs,hC,hp,hf,hr,hl⟩:=rx.h.objs n _ ho
   have hq : q≠p:=fun z=>by rw [z,ow] at h2; cases h2
   refine ⟨q,h1,h2,C',dx,vs,hC,by rw [upd_ne hq]; exact hp,fun f s z=>?_,fun m x z=>?_,by rw [putFl_len fs g _ ⟨_,hlk⟩]; exact hl⟩
   ·rw [zh1] at z
    by_cases ef : f=g
    ·rw [if_pos ef] at z; cases z
     rw [ef]
     obtain ⟨q',h3,h4,_⟩:=hf g _ hlk
     have : q' = p:=rx.h.uni q' p n g h4 ow
     subst this
     exact ⟨q',h3,ow,cw⟩
    ·rw [if_neg ef] at z
     exact FldR.upd ow (fun zz=>by cases zz; exact ef rfl) (hf f s z)
   ·obtain ⟨f,s,h3,h4⟩:=hr m x z
    by_cases ef : f=g
    ·exact ⟨f,.own w,h3,by rw [zh1,if_pos ef]⟩
    ·exact ⟨f,s,h3,by rw [zh1,if_neg ef]; exact h4⟩
  ·rw [List.getElem?_set_ne (fun z=>ea z.symm)] at ho'
   obtain ⟨q,h1,h2,h3⟩:=rx.h.objs a o ho'
   have hq : q≠p:=fun z=>by rw [z,ow] at h2; cases h2
   refine ⟨q,h1,h2,?_⟩
   cases o with
   | inst c' fs' =>
    obtain ⟨C',dx,vs,hC,hp,hf,hr,hl⟩:=h3
    exact ⟨C',dx,vs,hC,by rw [upd_ne hq]; exact hp,fun f s z=>FldR.upd ow (fun zz=>by cases zz; exact ea rfl) (hf f s z),hr,hl⟩
   | hl l=>exact zeJ (v:=.lst l) hq h3
   | hd l=>exact zeJ (v:=.dct l) hq h3
end
end Fx
end
section
set_option maxHeartbeats 4000000
namespace Fx
open PySem PySem.Spec PyProof.Rows L2
def Wd.stored (W : Wd) (n g : Nat) : Wd:={ W with asn:=fun a f=>W.asn a f∨(a=n∧f=g) }
section
variable {X : Cx} {T : Tb} {Wx : WX} {E : En} {W W1 W' : Wd} {H H1 H' : Hp} {σ : St} {fr fr1 : Fr} {h h1 : MH} {p : Addr} {n g : Nat}
theorem ze0 : Wle W (W.stored n g):=⟨fun _ _ h=>h,fun _ _ h=>h,fun _ _ h=>h,fun _ _ h=>h,fun _ _ _ h=>h,fun _ _=>Iff.rfl,fun _ _ h=>h⟩
theorem zbO.sto {i : Nat} {s : Slot} (c : zbO (gl X T) W H X.N T.cm σ i s) : zbO (gl X T) (W.stored n g) H X.N T.cm σ i s:=by
 cases s with
 | un=>trivial
 | val v=>obtain ⟨x,a,b⟩:=c; exact ⟨x,a,b.le ze0⟩
 | own v=>obtain ⟨q,a,b,k⟩:=c; exact ⟨q,a,b,k.up ze0⟩
 | own2 v =>
  obtain ⟨q,a,b,k⟩:=c
  refine ⟨q,a,b,?_⟩
  cases v with
  | lst l =>
   obtain ⟨qs,h1,h2,h3⟩:=k
   exact ⟨qs,h1,h2,Paired.imp2 (fun _ q z=>⟨z.1,z.2.up ze0⟩) h3⟩
  | _=>exact k
 | cell c'=>exact c
 | exc c' v=>obtain ⟨x,a,b⟩:=c; exact ⟨x,a,b.le ze0⟩
theorem FldR.sto {a f : Nat} {vs : List (Str × V)} {s : Slot} (c : FldR (gl X T) W H a f vs s) : FldR (gl X T) (W.stored n g) H a f vs s:=by
 cases s with
 | val v=>obtain ⟨x,a,b⟩:=c; exact ⟨x,a,b.le ze0⟩
 | own v=>obtain ⟨q,e,b,k⟩:=c; exact ⟨q,e,b,k.up ze0⟩
 | _=>exact c
theorem FldR.put {a f : Nat} {vs : List (Str × V)} {s : Slot} {y : V} {nm : Str} (hn : T.fldN f≠nm) (c : FldR (gl X T) W H a f vs s) : FldR (gl X T) W H a f (putF nm y vs) s:=by
 have e : (putF nm y vs).lookup (T.fldN f)=vs.lookup (T.fldN f):=by rw [lookup_putF,if_neg hn]
 cases s with
 | val v=>obtain ⟨x,a,b⟩:=c; exact ⟨x,by show (putF nm y vs).lookup _ = _; rw [e]; exact a,b⟩
 | own v=>obtain ⟨q,a,b,k⟩:=c; exact ⟨q,by show (putF nm y vs).lookup _ = _; rw [e]; exact a,b,k⟩
 | _=>exact c
end
end Fx
end
section
set_option maxHeartbeats 4000000
namespace Fx
open PySem PySem.Spec PyProof.Rows L2
end Fx
end
section
set_option maxHeartbeats 4000000
namespace Fx
open PySem PySem.Spec PyProof.Rows L2
end Fx
end
section
set_option maxHeartbeats 4000000
namespace Fx
open PySem PySem.Spec PyProof.Rows L2
section
variable {X : Cx} {T : Tb} {Wx : WX} {E : En} {W W1 W' : Wd} {H H1 H' : Hp} {σ : St} {fr fr1 : Fr} {h h1 : MH} {p : Addr} {r : zaB} {o' : HO}
def isIns : Ob→Bool
 | .inst _ _=>true
 | _=>false
theorem zpM {h : MH} {n : Nat} {ob ob' : Ob} (ho : h.objs[n]? = some ob) (hi : isIns ob=false) (hi' : isIns ob' = false) (a f : Nat) : fieldOf { h with objs:=h.objs.set n ob' } a f=fieldOf h a f:=by
 unfold fieldOf
 dsimp only
 by_cases e : a=n
 ·subst e
  rw [List.getElem?_set_self (List.getElem?_eq_some_iff.mp ho).1,ho]
  cases ob <;> cases ob' <;> first | rfl | simp [isIns] at hi hi'
 ·rw [List.getElem?_set_ne (fun z=>e z.symm)]
theorem put_hob {n : Nat} {ob ob' : Ob} (rx : RX X T W H fr σ h) (ho : h.objs[n]? = some ob) (hi : isIns ob=false) (hi' : isIns ob' = false) (hι : W.ι[n]? = some p) (ow : W.own p=some (.obj n)) (nc : ∀ a u,H p≠some (zbk a u))
  (cw : ObR (gl X T) W (upd H p o') n p ob') : RX X T W (upd H p o') fr σ { h with objs:=h.objs.set n ob' }:=by
 obtain ⟨z1,z2,z3⟩:=zqs (o':=o') rx ow
 have hlen : n < h.objs.length:=(List.getElem?_eq_some_iff.mp ho).1
 have n1 : ∀ {j},zaB.obj n≠.slot j:=fun z=>by cases z
 have n2 : ∀ {j},zaB.obj n≠.sub j:=fun z=>by cases z
 have n3 : ∀ {j k},zaB.obj n≠.fld j k:=fun z=>by cases z
 refine ⟨⟨rx.f.len,fun j s e=>zbO.upd ow n1 n2 (rx.f.at_ j s e),rx.f.inj⟩,⟨z1,z2,z3,rx.h.uni,rx.h.oas,fun a f=>?_,?_,rx.h.lk,fun a o ho'=>?_,zjQ (o':=o') (h':={ h with objs:=h.objs.set n ob' }) rx nc rfl (fun _ _=>Iff.rfl),rx.h.x.keep (Wle.refl W) (fun _ z=>z) (fun P o=>upd_ne (fun z=>by rw [z,ow] at o; cases o)) rfl (fun a o z=>upd_ne (fun e=>nc a o (by rw [← e]; exact z))) (fun i _ z=>⟨i,z⟩)⟩,rx.kk⟩
 ·rw [rx.h.asn a f,zpM ho hi hi']
 ·rw [rx.h.lι]; simp
 ·dsimp only at ho'
  by_cases ea : a=n
  ·rw [ea] at ho' ⊢
   rw [List.getElem?_set_self hlen] at ho'
   cases ho'
   exact ⟨p,hι,ow,cw⟩
  ·rw [List.getElem?_set_ne (fun z=>ea z.symm)] at ho'
   obtain ⟨q,h1,h2,h3⟩:=rx.h.objs a o ho'
   have hq : q≠p:=fun z=>by rw [z,ow] at h2; cases h2; exact ea rfl
   refine ⟨q,h1,h2,?_⟩
   cases o with
   | inst c' fs' =>
    obtain ⟨C',dx,vs,hC,hp,hf,hr,hl⟩:=h3
    exact ⟨C',dx,vs,hC,by rw [upd_ne hq]; exact hp,fun f s z=>FldR.upd ow n3 (hf f s z),hr,hl⟩
   | hl l=>exact zeJ (v:=.lst l) hq h3
   | hd l=>exact zeJ (v:=.dct l) hq h3
theorem cur_at {v : Val} {q : Addr} (c : Cur (gl X T) W H v q) : H q≠none:=by
 cases v with
 | lst l=>obtain ⟨vs,e,b⟩:=c; rw [e]; exact nofun
 | dct l=>obtain ⟨vs,e,b⟩:=c; rw [e]; exact nofun
 | _=>exact c.elim
def StoK (X : Cx) (T : Tb) (E : En) (D : Ends) (σ : St) (H : Hp) (x : V) (y : Val) (ff : Val→Val→Option Val) (W : Wd) : Prop :=
 ∃ p v w,x = .ref p∧Cur (gl X T) W H v p∧ff v y=some w∧∀ o',Cur (gl X T) W (upd H p o') w p→D.nx σ (upd H p o')
theorem sto_h {x : V} {w y : Val} {ff : Val→Val→Option Val} {D : Ends} (rx : RX X T W H fr σ h) (q : Rp (gl X T) W w x) (k : E.keep σ) (a : AfS X T Wx E W H (zgw w y ff fr h) D) : StoK X T E D σ H x y ff W:=by
 cases w with
 | ref n =>
  cases q with
  | ref hι =>
   rename_i p
   unfold zgw at a
   dsimp only at a
   cases ho : h.objs[n]? with
   | none=>simp only [ho] at a; exact a.elim
   | some ob =>
    simp only [ho] at a
    obtain ⟨p',h1,ow,ob_⟩:=rx.h.objs n _ ho
    rw [hι] at h1; cases h1
    cases ob with
    | inst c fs=>exact a.elim
    | hl l =>
     dsimp only at a
     have cu : Cur (gl X T) W H (.lst l) p:=ob_
     cases e : ff (.lst l) y with
     | none=>simp only [e] at a; exact a.elim
     | some w =>
      simp only [e] at a
      cases w with
      | lst l' =>
       dsimp only at a
       refine ⟨p,_,_,rfl,cu,e,fun o' cw=>?_⟩
       exact a W σ _ (zn3 ow (cur_at cu)) (put_hob (ob':=.hl l') rx ho rfl rfl hι ow (fun a u=>zcc cu) cw) k
      | _=>exact a.elim
    | hd l =>
     dsimp only at a
     have cu : Cur (gl X T) W H (.dct l) p:=ob_
     cases e : ff (.dct l) y with
     | none=>simp only [e] at a; exact a.elim
     | some w =>
      simp only [e] at a
      cases w with
      | dct l' =>
       dsimp only at a
       refine ⟨p,_,_,rfl,cu,e,fun o' cw=>?_⟩
       exact a W σ _ (zn3 ow (cur_at cu)) (put_hob (ob':=.hd l') rx ho rfl rfl hι ow (fun a u=>zcc cu) cw) k
      | _=>exact a.elim
 | _=>unfold zgw at a; exact a.elim
theorem sto {o : OV} {x : V} {y : Val} {ff : Val→Val→Option Val} {D : Ends} (rx : RX X T W H fr σ h) (q : OvR X T σ W H o x) (k : E.keep σ) (a : AfS X T Wx E W H (ze1 o y ff fr h) D) : StoK X T E D σ H x y ff W:=by
 unfold ze1 at a
 cases o with
 | v w=>exact sto_h rx q k a
 | sl i =>
  dsimp only at a
  have q : σ[i]? = some (some x):=q
  cases hs : fr[i]? with
  | none=>simp only [hs] at a; exact a.elim
  | some s =>
   simp only [hs] at a
   cases s with
   | own v =>
    dsimp only at a
    obtain ⟨p,hy,ow,cu⟩:=rx.f.at_ i _ hs
    rw [hy] at q; cases q
    cases e : ff v y with
    | none=>simp only [e] at a; exact a.elim
    | some w =>
     simp only [e] at a
     exact ⟨p,v,w,rfl,cu,e,fun o' cw=>a W σ _ (zn3 ow (cur_at cu)) (put_slot rx hs hy ow cu cw) k⟩
   | val v =>
    dsimp only at a
    obtain ⟨z,hy,rz⟩:=rx.f.at_ i _ hs
    rw [hy] at q; cases q
    exact sto_h rx rz k a
   | _=>exact a.elim
 | fl n g =>
  dsimp only at a
  obtain ⟨p,rfl,as,u⟩:=q
  cases hs : fieldOf h n g with
  | none=>simp only [hs] at a; exact a.elim
  | some s =>
   simp only [hs] at a
   cases s with
   | own v =>
    dsimp only at a
    have hs':=hs
    unfold fieldOf at hs'
    cases ho : h.objs[n]? with
    | none=>rw [ho] at hs'; cases hs'
    | some ob =>
     rw [ho] at hs'
     cases ob with
     | inst c fs =>
      obtain ⟨q0,_,_,C,dx,vs,_,_,h3,_⟩:=rx.h.objs n _ ho
      obtain ⟨q',_,ow,cu⟩:=h3 g _ hs'
      have e0:=u q' ow
      subst e0
      cases e : ff v y with
      | none=>simp only [e] at a; exact a.elim
      | some w =>
       simp only [e] at a
       cases es : setField h n g (.own w) with
       | none=>simp only [es] at a; exact a.elim
       | some h' =>
        simp only [es] at a
        exact ⟨q',v,w,rfl,cu,e,fun o' cw=>a W σ _ (zn3 ow (cur_at cu)) (put_fld rx hs es ow cu cw) k⟩
     | _=>cases hs'
   | _=>exact a.elim
def odP : Plc→Od
 | .slot i=>.b i
 | .fld e g=>.bf e g
 | .val e=>.e e
theorem plcO_eq (p : Plc) : plcO p=(odP p).cons .nil:=by cases p <;> rfl
variable {TT : Tbl} {C : Callee} {f f2 : Bool} {e a b c : Expr} {pos pos' apos : Pos}
def KindX (X : Cx) (T : Tb) (d : Option Bool) (W : Wd) (H : Hp) (x : V) : Prop:=match d with
 | some false=>∃ l,Lk (gl X T) W H (.lst l) x
 | some true=>∃ l,(l.all fun p=>isKs p.1)=true∧Lk (gl X T) W H (.dct l) x
 | none=>True
theorem kind_x {d : Option Bool} {o : OV} {x : V} (rx : RX X T W H fr σ h) (q : OvR X T σ W H o x) (k : zg9 d (za9 [o] fr h)=true) : KindX X T d W H x:=by
 cases e1 : resolve o fr h with
 | none=>simp only [za9,e1,Option.bind_none] at k; cases d with
  | none=>trivial
  | some b=>cases b <;> simp [zg9] at k
 | some v1 =>
  simp only [za9,e1,Option.bind_some,Option.map_some] at k
  have lk:=zdf rx q e1
  cases d with
  | none=>trivial
  | some b =>
   cases b with
   | false=>cases v1 with
    | lst l=>exact ⟨l,lk⟩
    | _=>simp [zg9] at k
   | true=>cases v1 with
    | dct l=>exact ⟨l,k,lk⟩
    | _=>simp [zg9] at k
theorem chgE {p : Plc} {d : Option Bool} {rest : Fr→MH→Res Val} {ff : Val→Val→Option Val} {D : Ends} {Q : VK} (rx : RX X T W H fr σ h) (hk : E.keep σ) (a : AfS X T Wx E W H (change TT C d p rest ff fr h) D)
  (k : ∀ x H1 W1 fr1 h1 o,Evo W H W1 H1→RX X T W1 H1 fr1 σ h1→OvR X T σ W1 H1 o x→KindX X T d W1 H1 x→AfS X T Wx E W1 H1 (zaZ rest (fun y=>ze1 o y ff) fr1 h1) D→Q x H1) :
  AfX X T Wx σ (OvR X T σ) W H (evod TT C (odP p) fr h) Q:=by
 unfold change at a
 rw [plcO_eq,zeH,zdU] at a
 cases q1 : evod TT C (odP p) fr h with
 | stuck=>simp only [zaZ,bnd,q1] at a; exact a.elim
 | exn c y fr1 h1 =>
  simp only [zaZ,bnd,q1] at a
  exact fun W' cls d H' ev r' ex=>a W' cls d σ H' ev r' hk ex
 | ok o fr1 h1 =>
  simp only [zaZ,bnd,q1,rt] at a
  intro W1 x H1 ev1 r1 ov1
  cases q2 : early d [o] fr1 h1 with
  | stuck=>simp only [q2] at a; exact a.elim
  | exn c y fr2 h2=>unfold early at q2; split at q2 <;> cases q2
  | ok u fr2 h2 =>
   have kk : zg9 d (za9 [o] fr1 h1)=true∧fr2=fr1∧h2=h1:=by
    unfold early at q2
    split at q2
    ·rename_i z; cases q2; exact ⟨z,rfl,rfl⟩
    ·cases q2
   obtain ⟨kk,rfl,rfl⟩:=kk
   simp only [q2] at a
   exact k x H1 W1 fr2 h2 o ev1 r1 ov1 (kind_x r1 ov1 kk) (AfS.evo (W:=W) (H:=H) a ev1)
theorem tyV_lst {l : List Val} {x : V} (lk : Lk (gl X T) W H (.lst l) x) : tyV X.K "list" x H:=by
 obtain ⟨p,vs,rfl,rd,_⟩:=lk
 exact .inl ⟨rfl,vs,rd⟩
theorem zpZ {v y w : Val} (e : ziw v y=some w) : ∃ l,v = .lst l∧w = .lst (l ++ [y])∧l.length < sizeLine:=by
 cases v with
 | lst l =>
  unfold ziw at e
  dsimp only at e
  by_cases hl : l.length < line
  ·rw [if_pos hl] at e; cases e
   exact ⟨l,rfl,rfl,by rw [← zhW]; exact hl⟩
  ·rw [if_neg hl] at e; cases e
 | _=>cases e
theorem zjT {p : Plc} {y : Exp} (hp : SO X T Wx TT C a (odP p)) (hy : SE X T Wx TT C f b y)
  (hbase : attributeBase a "append" X.env (eval a X.env)=eval a X.env:=by rfl)
  (hfew : ((PySem.backTo pos (starEach [b] X.env)).all (fun x=>!x.1) && (backToKw pos (keywordEach [] X.env)).all (fun x=>x.1.isSome)
   && decide (([b] : List Expr).length + ([] : List Keyword).length + (if ([] : List Keyword).isEmpty then 0 else 1) < 30))=true:=by rfl)
  (hline : (apos.endLine == pos.line)=true:=by rfl) (hs : starEach [b] X.env=(false,eval b X.env) :: starEach [] X.env:=by rfl) (hplain : (PySem.backTo pos (starEach [] X.env)).any (·.1)=false:=by rfl)
  (hsw : swapsWith (.Call (.Attribute a "append" apos) [b] [] pos) none pos'.line X.env=pure false:=by rfl) :
  SS X T Wx E TT C (.Expr (.Call (.Attribute a "append" apos) [b] [] pos) pos') (.append p y):=by
 refine zkh (ps_expr (pe_bm PySem.F.plainAttrs_list PySem.F.slot_list_append PySem.F.type_list_append mt_append hp (pa_cons (PE.un hy) pa_nil hs) hbase hfew hline hs hplain) hsw) fun D σ H ⟨W,fr,h,r,k,ev,a⟩=>?_
 simp only [ex] at a
 refine ⟨W,fr,h,r,chgE r k a fun x H1 W1 fr1 h1 o ev1 r1 ov kx a=>?_⟩
 obtain ⟨l0,lk⟩:=kx
 refine ⟨tyV_lst lk,W1,fr1,h1,r1,ofE (Rel:=ResR (gl X T) false H1) k a fun z H2 W2 v fr2 h2 ev2 r2 rz a=>?_⟩
 obtain ⟨q,v0,w,rfl,cu,e,kk⟩:=sto r2 (OvR.evo ev2 ov) k (AfS.evo a ev2)
 obtain ⟨l,rfl,rfl,hl⟩:=zpZ e
 obtain ⟨vs,hq,rv⟩:=cu
 refine ⟨q,vs,z,rfl,rfl,hq,by rw [← rv.length]; exact hl,kk _ ⟨_,upd_same,rv.append (.cons rz .nil)⟩⟩
end
end Fx
end
section
set_option maxHeartbeats 4000000
namespace Fx
open PySem PySem.Spec PyProof.Rows L2 RZ
section
variable {X : Cx} {T : Tb} {Wx : WX} {E : En} {W W1 W' : Wd} {H H1 H' : Hp} {σ : St} {fr fr1 : Fr} {h h1 : MH} {p : Addr} {r : zaB} {o' : HO} {TT : Tbl} {C : Callee} {f f2 f3 : Bool} {e a b c tg : Expr} {pos pos' apos p2 : Pos} {st : Stmt}
def rSetA (X : Cx) : TSet:=fun o i v H Q=>rSetL o i v H Q∨(∃ a H4,o = .ref a∧DPut H a i v H4∧Q H4)∨rSetN X o i v H Q
theorem set_any (hu : X.A.units + 9 < cLine) : PSet X (rSetA X):=by
 intro pins s σ H o i v ov iv u Q I ro ri rv q
 rcases q with q | ⟨a,H4,rfl,g,q⟩ | q
 ·exact set_list pins s σ H o i v ov iv u Q I ro ri rv q
 ·obtain rfl : ov=Value.ref a:=ro
  exact d_setItem (hu1 hu) I g ri rv fun s4 I4=>⟨H4,I4,q⟩
 ·exact set_N hu pins s σ H o i v ov iv u Q I ro ri rv q
theorem setV_some {k v y w : Val} (e : setV k v y=some w) : (∃ l i j,k = .int i∧v = .lst l∧ixAt l.length i=some j∧w = .lst (l.set j y))∨(∃ l,v = .dct l∧dOkA l k=true∧l.length < sizeLine∧w = .dct (dput l k y)):=by
 cases v with
 | lst l =>
  cases k with
  | int i =>
   unfold setV at e
   dsimp only at e
   cases q : ixAt l.length i with
   | none=>rw [q] at e; cases e
   | some j=>rw [q] at e; cases e; exact .inl ⟨l,i,j,rfl,rfl,q,rfl⟩
  | _=>cases e
 | dct l =>
  unfold setV at e
  dsimp only at e
  split at e
  ·rename_i q
   rw [Bool.and_eq_true_iff] at q
   cases e
   exact .inr ⟨l,rfl,q.1,by rw [← zhW]; exact of_decide_eq_true q.2,rfl⟩
  ·cases e
 | _=>cases e
theorem zqv {p : Plc} {k y : Exp} (hu : X.A.units + 9 < cLine) (hp : SO X T Wx TT C a (odP p)) (hk : SE X T Wx TT C f b k) (hy : SE X T Wx TT C f2 c y)
  (ha : ∀ v,assign (.Subscript a b p2) X.env v=(do
   let ov ← holding [v] (eval a X.env)
   let iv ← holding [v,ov] (eval b X.env)
   standAt p2
   holding [v,ov,iv] (setItem ov iv v)
   release [v,ov,iv] []):=by intro _; rfl)
  (hs : swapsWithSole [.Subscript a b p2] c pos.line X.env=pure false:=by rfl) (hw : swappedStores [.Subscript a b p2] c X.env=pure none:=by rfl)
  (h1 : (assignEach [.Subscript a b p2] X.env).map (·.2) = [assign (.Subscript a b p2) X.env]:=by rfl) :
  SS X T Wx E TT C (.Assign [.Subscript a b p2] c pos) (.setI p k y):=by
 refine zkh (ps_asg (PE.un hy) (pg_sub hp (PE.un hk) (set_any hu) ha) hs hw h1) fun D σ H ⟨W,fr,h,r,kp,ev,a⟩=>?_
 simp only [ex] at a
 refine ⟨W,fr,h,r,ofE (Rel:=ResR (gl X T) false H) kp a fun z H1 W1 v fr1 h1 ev1 r1 rz a=>⟨W1,fr1,h1,r1,chgE r1 kp (AfS.evo a ev1) fun x H2 W2 fr2 h2 o ev2 r2 ov _ a=>⟨W2,fr2,h2,r2,?_⟩⟩⟩
 unfold zaZ at a
 cases q : Fx.ev TT C k fr2 h2 with
 | stuck=>simp only [bnd,q] at a; exact a.elim
 | exn c' y' fr3 h3 =>
  simp only [bnd,q] at a
  exact fun W' cls d H' ev' r' ex=>a W' cls d σ H' ev' r' kp ex
 | ok kv fr3 h3 =>
  simp only [bnd,q,rt] at a
  intro W3 i H3 ev3 r3 ri
  have ri : Rp (gl X T) W3 kv i:=ri
  obtain ⟨q',v0,w,rfl,cu,e,kk⟩:=sto r3 (OvR.evo ev3 ov) kp (AfS.evo a ev3)
  have rz : Rp (gl X T) W3 v z:=Rp.le ev3.le (Rp.le ev2.le rz)
  rcases setV_some e with ⟨l,n,j,rfl,rfl,hj,rfl⟩ | ⟨l,rfl,hd,hl,rfl⟩
  ·obtain ⟨vs,hq,rv⟩:=cu
   cases Rp.intI ri
   exact .inl ⟨q',vs,n,j,rfl,rfl,hq,by rw [← rv.length,← ixAt_eq]; exact hj,kk _ ⟨_,upd_same,rv.set rz j⟩⟩
  ·obtain ⟨o4,hq,en⟩:=cu
   rcases dOkA_or hd with hd | hd
   ·obtain ⟨kvs,rfl,en'⟩:=en.f (dOk_all hd)
    obtain ⟨kk',hk'⟩:=isKs_ky (dOk_ky hd)
    have ei:=ky_rp hk' ri
    subst ei
    exact .inr (.inl ⟨q',_,rfl,DPut.k hq (by rw [← en'.length]; exact hl),kk _ ⟨_,upd_same,.flat (en'.put hk' rz)⟩⟩)
   ·obtain ⟨hkn,hall⟩:=Bool.and_eq_true_iff.mp hd
    obtain ⟨es,en',ho⟩:=en.n hall
    obtain ⟨kk',hk',dp⟩:=znV hkn
    obtain ⟨tb,tm,rfl⟩:=zjB hkn
    obtain ⟨ap,vs,rfl,sq,rp⟩:=Rp.tupI (WH.of r3) ri
    have nk : NK X.K H3 kk' (.ref ap):=by
     obtain ⟨ks,e,rfl⟩:=Option.map_eq_some_iff.mp hk'
     exact .tup sq (NKs.le (WH.of r3).zin (nks_rp tm ks vs e rp))
    refine .inr (.inr ⟨q',ap,es,kk',rfl,rfl,?_,en'.keys (WH.of r3).zin,nk,dp,by rw [← en'.length]; exact hl,kk _ ⟨_,upd_same,.nest putN_ne (en'.put hk' hkn ri rz)⟩⟩)
    rcases ho with ⟨rfl,rfl⟩ | rfl
    ·exact .inl ⟨rfl,hq⟩
    ·exact .inr hq
theorem ItzT_walk {b1 b2 : Bool} {l m : List Val} {p q : Addr} (r : Rp (gl X T) W (.tup b1 l) (.ref p)) (s : Rp (gl X T) W (.tup b2 m) (.ref q)) : zlk X T (ItzT X.K p q) W ((l.zip m).map fun p=>.tup false [p.1,p.2]):=by
 intro W1 H1 le wh
 obtain ⟨p',vs,e,rd,rl⟩:=Rp.tupI wh (Rp.le le r)
 cases e
 obtain ⟨q',ws,e,rd2,rl2⟩:=Rp.tupI wh (Rp.le le s)
 cases e
 have hq : SqT X.K H1 p vs:=rd
 have hq2 : SqT X.K H1 q ws:=rd2
 refine ⟨zgb fun i hi=>⟨vs,ws,hq,hq2,?_⟩,fun i v hv=>?_⟩
 ·rw [List.length_map,List.length_zip,rl.length,rl2.length] at hi
  omega
 ·rw [zip_get] at hv
  cases e : l[i]? with
  | none=>rw [e] at hv; cases hv
  | some w =>
   cases e2 : m[i]? with
   | none=>rw [e,e2] at hv; cases hv
   | some w2 =>
    rw [e,e2] at hv
    cases hv
    obtain ⟨x,hx,rx⟩:=rl.get e
    obtain ⟨y,hy,ry⟩:=rl2.get e2
    refine ⟨⟨vs,ws,x,y,hq,hq2,hx,hy⟩,fun z H' hz=>?_⟩
    obtain ⟨t,x',y',rfl,hn,rfl,h1,h2⟩:=hz
    have:=h1 vs hq
    rw [hx] at this; cases this
    have:=h2 ws hq2
    rw [hy] at this; cases this
    exact step_tup wh hn (.cons rx (.cons ry .nil))
theorem si_zip {x y : Exp} {p tpos : Pos} {elts : List Expr} {kk : Nat} (hg : Gl X "zip") (hm : X.mg "zip" = none) (ha : SE X T Wx TT C f a x) (hb : SE X T Wx TT C f2 b y)
  (hs : starEach [a,b] X.env=(false,eval a X.env) :: starEach [b] X.env:=by rfl) (hs2 : starEach [b] X.env=(false,eval b X.env) :: starEach [] X.env:=by rfl) (hpl : (PySem.backTo pos (starEach [b] X.env)).any (·.1)=false:=by rfl) :
  SI X T Wx TT C (.Tuple elts kk tpos) (.Call (.Name "zip" p) [a,b] [] pos) (.zip (.cons x (.cons y .nil))):=by
 refine pi_wk (pi_zipA hg hm (za2 ha (za2 hb zao hs2) hs) hs hpl) fun σ H R ⟨W,fr,h,r,a⟩=>?_
 simp only [evi] at a
 refine ⟨W,fr,h,r,?_⟩
 simp only [evs] at a ⊢
 cases e : ev TT C x fr h with
 | stuck=>simp only [bnd,e] at a; exact a.elim
 | exn c y fr1 h1=>simp only [bnd,e] at a ⊢; exact a
 | ok v fr1 h1 =>
  simp only [bnd,e,rt] at a ⊢
  cases e2 : ev TT C y fr1 h1 with
  | stuck=>simp only [bnd,e2] at a; exact a.elim
  | exn c y fr1 h1=>simp only [bnd,e2] at a ⊢; exact a
  | ok v2 fr2 h2 =>
   simp only [bnd,e2,rt] at a ⊢
   intro W1 xs H1 ev1 r1 rr
   cases rr with
   | cons rr rn =>
    cases rn with
    | cons rr2 rn =>
     cases rn
     cases v with
     | lst l =>
      cases v2 with
      | lst m =>
       obtain ⟨p,vs,rfl,rd,rl⟩:=Lk.of (WH.of r1) rr
       obtain ⟨q,ws,rfl,rd2,rl2⟩:=Lk.of (WH.of r1) rr2
       exact ⟨p,q,vs,ws,rfl,.inl ⟨rd,rd2,a W1 _ H1 ev1 r1 (walk_zip rr rr2)⟩⟩
      | _=>exact a.elim
     | tup bt l =>
      cases v2 with
      | tup bt m =>
       obtain ⟨p,vs,rfl,rd,rl⟩:=Rp.tupI (WH.of r1) rr
       obtain ⟨q,ws,rfl,rd2,rl2⟩:=Rp.tupI (WH.of r1) rr2
       exact ⟨p,q,vs,ws,rfl,.inr ⟨rd,rd2,a W1 _ H1 ev1 r1 (ItzT_walk rr rr2)⟩⟩
      | _=>exact a.elim
     | _=>exact a.elim
end
end Fx
end
section
set_option maxHeartbeats 4000000
namespace L2
open PySem PySem.Spec PyProof.Rows
def ZipSt (h : Heap) (z TI TO i1 i2 a b : Addr) (i : Nat) : Prop :=
 IsPair h TI (.ref i1) (.ref i2)∧h.IsListIter i1 a i∧h.IsListIter i2 b i∧(∃ o,h.get? TO=some o) ∧
  ((IsZip h z TI TO .none∧∃ x y,IsPair h TO x y)∨∃ T f oT,IsZipHeld h z TI TO T f∧h.get? T=some oT∧T≠z∧T≠i1∧T≠i2)
section
variable {X : Cx} {pins : List (Addr × Obj)} {σ : L2.St} {H : Hp} {s : Shared} {z TI TO i1 i2 a b : Addr} {xs ys : List V} {i : Nat} {A1 : Around} {E : Value→Shared→Prop}
theorem ZipSt.keep {h h' : Heap} (st : ZipSt h z TI TO i1 i2 a b i) (k : ∀ c o,h.get? c=some o→∃ o',h'.get? c=some o') (kk : ∀ c∈[z,TI,TO,i1,i2],∀ o,h.get? c=some o→h'.get? c=some o) : ZipSt h' z TI TO i1 i2 a b i:=by
 obtain ⟨hTI,h1,h2,⟨oo,hO⟩,hz⟩:=st
 refine ⟨kk TI (by simp) _ hTI,h1.at fun o q=>kk i1 (by simp) o q,h2.at fun o q=>kk i2 (by simp) o q,⟨oo,kk TO (by simp) _ hO⟩,?_⟩
 rcases hz with ⟨hz,x,y,hp⟩ | ⟨T,f,oT,hz,hT,n1,n2,n3⟩
 ·exact .inl ⟨kk z (by simp) _ hz,x,y,kk TO (by simp) _ hp⟩
 ·obtain ⟨o',e'⟩:=k T oT hT
  exact .inr ⟨T,f,o',kk z (by simp) _ hz,e',n1,n2,n3⟩
end
end L2
end
section
set_option maxHeartbeats 4000000
namespace L2
open PySem PySem.Spec PyProof.Rows
end L2
end
section
set_option maxHeartbeats 4000000
namespace Fx
open PySem PySem.Spec PyProof.Rows L2 RZ
end Fx
end
section
set_option maxHeartbeats 4000000
namespace Fx
open PySem PySem.Spec PyProof.Rows L2 RZ
end Fx
end
section
set_option maxHeartbeats 4000000
namespace Fx
open PySem PySem.Spec PyProof.Rows L2
section
variable {X : Cx} {T : Tb} {Wx : WX} {E : En} {W W1 W' : Wd} {H H1 H' : Hp} {σ : St} {fr fr1 : Fr} {h h1 : MH} {p q : Addr} {r : zaB} {o' : HO} {TT : Tbl} {C : Callee} {f f2 f3 : Bool} {e a b c tg : Expr} {pos pos' apos p2 : Pos} {st : Stmt}
theorem slot_leak {i : Nat} {v : Val} (r : RX X T W H fr σ h) (hs : fr[i]? = some (.own v)) (hv : σ[i]? = some (some (.ref q))) (ow : W.own q=some (.slot i)) (cu : Cur (gl X T) W H v q) : RX X T (W.leak H q) H (fr.set i (.val v)) σ h:=by
  have n0 : W.Z q=none:=r.h.zown ow
  have le:=zia (H:=H) n0
  have hl : i < fr.length:=(List.getElem?_eq_some_iff.mp hs).1
  have cf : ∀ (j c : Nat),(fr.set i (.val v))[j]? = some (Slot.cell c)↔fr[j]? = some (Slot.cell c):=fun j c=>by
    by_cases e : j=i
    · subst e
      rw [List.getElem?_set_self hl,hs]
      exact ⟨(fun z=>nomatch z),(fun z=>nomatch z)⟩
    · rw [List.getElem?_set_ne (fun z=>e z.symm)]
  refine ⟨⟨by simp [r.f.len],fun j s e=>?_,fun j k c e1 e2=>r.f.inj j k c ((cf j c).mp e1) ((cf k c).mp e2)⟩,⟨leak_zin r.h cu.nf,fun p od z=>let ⟨u,h1,h2⟩:=r.h.fin p od z; ⟨u,le.Z _ _ h1,h2⟩,fun p o z=>r.h.oin p o (zfF z).2,fun p p' a f z z'=>r.h.uni p p' a f (zfF z).2 (zfF z').2,fun q a f z=>r.h.oas q a f (zfF z).2,r.h.asn,r.h.lι,r.h.lk,fun n o ho=>?_,fun c v' e=>?_,r.h.x.keep le (fun P o=>zcP o (fun z=>by rw [z,ow] at o; cases o)) (fun _ _=>rfl) rfl (fun _ _ _=>rfl) (fun j c z=>⟨j,(cf j c).mpr z⟩)⟩,zpx le r.kk⟩
  · by_cases ej : j=i
    · subst ej
      rw [List.getElem?_set_self hl] at e; cases e
      exact ⟨_,hv,leak_rp n0 cu⟩
    · rw [List.getElem?_set_ne (fun z=>ej z.symm)] at e
      refine zbO.leak n0 (by rw [ow]; intro z; cases z; exact ej rfl) (by rw [ow]; intro z; cases z) (r.f.at_ j s e)
  · obtain ⟨p,h1,h2,h3⟩:=r.h.objs n o ho
    have hpq : p≠q:=fun z=>by rw [z,ow] at h2; cases h2
    refine ⟨p,h1,zcP h2 hpq,?_⟩
    cases o with
    | inst c' fs' =>
      obtain ⟨C',dx,vs,hC,hp,hf,hr,hl⟩:=h3
      exact ⟨C',dx,vs,hC,hp,fun f s z=>FldR.leak n0 (by rw [ow]; intro zz; cases zz) (hf f s z),hr,hl⟩
    | hl l=>exact Cur.up (v:=.lst l) le h3
    | hd l=>exact Cur.up (v:=.dct l) le h3
  · rcases zo9 (W':=W.leak H q) (H:=H) (σ':=σ) (fr':=fr) le r.h.cells c v' e with ⟨j,x,h1,h2,h3⟩ | ⟨h1,h2⟩
    · exact .inl ⟨j,x,(cf j c).mpr h1,h2,h3⟩
    · exact .inr ⟨fun j z=>h1 j ((cf j c).mp z),h2⟩
theorem se_mvar {i : Nat} {x : Str} (hN : X.N[i]? = some x) (hv : Vis X.env.scope x) (hd : (x == ("__debug__" : Str))=false) (hcd : (x == ("__classdict__" : Str))=false)
  (no2 : ∀ (fr : Fr) (h : MH) (v : Val),fr[i]? = some (.own2 v)→ev TT C (.mvar i) fr h = .stuck) :
  SE X T Wx TT C false (.Name x pos) (.mvar i):=by
 refine PE.wk (pe_var hN hv hd hcd) fun σ H Q q=>?_
 obtain ⟨W,fr,h,r,a⟩:=q
 cases e : fr[i]? with
 | none=>simp only [ev,e] at a; exact a.elim
 | some s =>
  cases s with
  | val v =>
   simp only [ev,e] at a
   obtain ⟨y,hy,ry⟩:=r.f.at_ i _ e
   exact ⟨y,hy,a W y H (Evo.refl _ _) r ry⟩
  | own v =>
   simp only [ev,e] at a
   obtain ⟨q,hy,ow,cu⟩:=r.f.at_ i _ e
   have n0:=r.h.zown ow
   exact ⟨.ref q,hy,a (W.leak H q) (.ref q) H (leak_evo n0 ow) (slot_leak r e hy ow cu) (leak_rp n0 cu)⟩
  | own2 v =>
   rw [no2 fr h v e] at a
   exact a.elim
  | _=>simp only [ev,e] at a; exact a.elim
def Wd.drop (W : Wd) (q : Addr) : Wd:={ W with own:=fun p=>if p=q then none else W.own p }
theorem zfI {p : Addr} {r : zaB} (h : (W.drop q).own p=some r) : p≠q∧W.own p=some r:=by
 have h : (if p=q then none else W.own p)=some r:=h
 by_cases e : p=q
 ·rw [if_pos e] at h; cases h
 ·rw [if_neg e] at h; exact ⟨e,h⟩
theorem zdu {p : Addr} {r : Option zaB} (h : W.own p=r) (e : p≠q) : (W.drop q).own p=r:=by
 show (if p=q then none else W.own p)=r
 rw [if_neg e]; exact h
theorem zo5 : Wle W (W.drop q):=⟨fun _ _ h=>h,fun _ _ h=>h,fun _ _ h=>h,fun _ _ h=>h,fun _ _ _ h=>h,fun _ _=>Iff.rfl,fun _ _ h=>h⟩
theorem drop_evo {r : zaB} (o : W.own q=some r) : Evo W H (W.drop q) H:=by
 refine ⟨zo5,fun p o' hp _ no=>⟨hp,?_⟩,fun p o' hp z no=>z,fun _ _ h=>h,fun a f p _ h=>(zfI h).2,fun _ h=>h,fun p _ r r' _ a b=>by have:=(zfI b).2; rw [a] at this; cases this; rfl,fun p _ _ n=>?_⟩
 ·exact zdu no (fun e=>by rw [e,o] at no; cases no)
 ·show (if p=q then none else W.own p)=none
  by_cases e : p=q
  ·rw [if_pos e]
  ·rw [if_neg e]; exact n
theorem slot_drop {i : Nat} {v : Val} (r : RX X T W H fr σ h) (hs : fr[i]? = some (.own v)) (ow : W.own q=some (.slot i)) : RX X T (W.drop q) H (fr.set i .un) σ h:=by
  have le:=zo5 (W:=W) (q:=q)
  have hl : i < fr.length:=(List.getElem?_eq_some_iff.mp hs).1
  have cf : ∀ (j c : Nat),(fr.set i .un)[j]? = some (Slot.cell c)↔fr[j]? = some (Slot.cell c):=fun j c=>by
    by_cases e : j=i
    · subst e
      rw [List.getElem?_set_self hl,hs]
      exact ⟨(fun z=>nomatch z),(fun z=>nomatch z)⟩
    · rw [List.getElem?_set_ne (fun z=>e z.symm)]
  refine ⟨⟨by simp [r.f.len],fun j s e=>?_,fun j k c e1 e2=>r.f.inj j k c ((cf j c).mp e1) ((cf k c).mp e2)⟩,⟨fun p o z=>⟨(r.h.zin p o z).rd,?_,(r.h.zin p o z).nf,(r.h.zin p o z).ls⟩,r.h.fin,fun p o z=>r.h.oin p o (zfI z).2,fun p p' a f z z'=>r.h.uni p p' a f (zfI z).2 (zfI z').2,fun q a f z=>r.h.oas q a f (zfI z).2,r.h.asn,r.h.lι,r.h.lk,fun n o ho=>?_,fun c v' e=>?_,r.h.x.keep le (fun P o=>zdu o (fun z=>by rw [z,ow] at o; cases o)) (fun _ _=>rfl) rfl (fun _ _ _=>rfl) (fun j c z=>⟨j,(cf j c).mpr z⟩)⟩,zpx zo5 r.kk⟩
  · by_cases ej : j=i
    · subst ej
      rw [List.getElem?_set_self hl] at e; cases e
      trivial
    · rw [List.getElem?_set_ne (fun z=>ej z.symm)] at e
      have c:=r.f.at_ j s e
      have ne : ∀ {p},W.own p=some (.slot j)→p≠q:=fun o z=>by rw [z,ow] at o; cases o; exact ej rfl
      have ne2 : ∀ {p},W.own p=some (.sub j)→p≠q:=fun o z=>by rw [z,ow] at o; cases o
      cases s with
      | un=>trivial
      | val v=>obtain ⟨x,a,b⟩:=c; exact ⟨x,a,b.le le⟩
      | own v=>obtain ⟨p,a,b,k⟩:=c; exact ⟨p,a,zdu b (ne b),k.up le⟩
      | own2 v =>
        obtain ⟨p,a,b,k⟩:=c
        refine ⟨p,a,zdu b (ne b),?_⟩
        cases v with
        | lst l =>
          obtain ⟨qs,h1,h2,h3⟩:=k
          exact ⟨qs,h1,h2,Paired.imp2 (fun _ p z=>⟨zdu z.1 (ne2 z.1),z.2.up le⟩) h3⟩
        | _=>exact k
      | cell c'=>exact c
      | exc c' v=>obtain ⟨x,a,b⟩:=c; exact ⟨x,a,b.le le⟩
  · show (if p=q then none else W.own p)=none
    by_cases e : p=q
    · rw [if_pos e]
    · rw [if_neg e]; exact (r.h.zin p o z).no
  · obtain ⟨p,h1,h2,h3⟩:=r.h.objs n o ho
    have hpq : p≠q:=fun z=>by rw [z,ow] at h2; cases h2
    refine ⟨p,h1,zdu h2 hpq,?_⟩
    cases o with
    | inst c' fs' =>
      obtain ⟨C',dx,vs,hC,hp,hf,hr,hl⟩:=h3
      refine ⟨C',dx,vs,hC,hp,fun f s z=>?_,hr,hl⟩
      have k:=hf f s z
      cases s with
      | val v=>obtain ⟨x,a,b⟩:=k; exact ⟨x,a,b.le le⟩
      | own v=>obtain ⟨p,a,b,k⟩:=k; exact ⟨p,a,zdu b (fun z=>by rw [z,ow] at b; cases b),k.up le⟩
      | _=>exact k
    | hl l=>exact Cur.up (v:=.lst l) le h3
    | hd l=>exact Cur.up (v:=.dct l) le h3
  · rcases zo9 (W':=W.drop q) (H:=H) (σ':=σ) (fr':=fr) le r.h.cells c v' e with ⟨j,x,h1,h2,h3⟩ | ⟨h1,h2⟩
    · exact .inl ⟨j,x,(cf j c).mpr h1,h2,h3⟩
    · exact .inr ⟨fun j z=>h1 j ((cf j c).mp z),h2⟩
theorem ss_retO {i : Nat} {x : Str} (hf : E.fr=true) (hl : i ∉ E.lent) (hN : X.N[i]? = some x) (hv : Vis X.env.scope x) (hd : (x == ("__debug__" : Str))=false) (hcd : (x == ("__classdict__" : Str))=false) :
  SS X T Wx E TT C (.Return (some (.Name x pos)) pos') (.retO i):=by
 refine zkh (ps_ret (pe_var hN hv hd hcd)) fun D σ H ⟨W,fr,h,r,k,ev,a⟩=>?_
 simp only [ex] at a
 cases e : fr[i]? with
 | none=>simp only [e] at a; exact a.elim
 | some s =>
  simp only [e] at a
  cases s with
  | own v =>
   dsimp only at a
   obtain ⟨q,hy,ow,cu⟩:=r.f.at_ i _ e
   refine ⟨.ref q,hy,a (W.drop q) (.ref q) σ H (drop_evo ow) (slot_drop r e ow) k ?_⟩
   rw [hf]
   have n0:=r.h.zown ow
   have hq0 : E.H0 q=none:=by
    cases h0 : E.H0 q with
    | none=>rfl
    | some o =>
     exfalso
     cases w0 : E.W0.own q with
     | some r' =>
      have:=ev.zih q o r' _ h0 w0 ow
      subst this
      exact hl (E.sl q i w0)
     | none =>
      cases z0 : E.W0.Z q with
      | none =>
       have:=(ev.stay q o h0 z0 w0).2
       rw [ow] at this; cases this
      | some u =>
       have:=ev.zown q u z0 w0
       rw [ow] at this; cases this
   have fre : zd5 (gl X T) E.H0 (W.drop q) H v (.ref q):=⟨q,rfl,hq0,n0,if_pos rfl,cu.up zo5⟩
   cases v with
   | lst l=>exact fre
   | dct l=>exact fre
   | _=>exact cu.elim
  | _=>exact a.elim
end
end Fx
end
section
set_option maxHeartbeats 4000000
namespace Fx
open PySem PySem.Spec PyProof.Rows L2
abbrev Cells:=Addr→Option Obj
def seen (H : Hp) (S : Cells) : Hp:=fun b=>match S b with
 | some o=>some (zbk b o)
 | none=>H b
def hid (H : Hp) (S : Cells) : Hp:=fun b=>match S b with
 | some _=>none
 | none=>H b
section
variable {P : Program} {w : World} {H H' H2 : Hp} {S : Cells} {h h' : Heap} {b : Addr} {o : Obj} {s s' : Shared} {outer : List Env} {u : Value}
theorem zc2 (e : S b=some o) : seen H S b=some (zbk b o):=by unfold seen; rw [e]
theorem zai (e : S b=none) : seen H S b=H b:=by unfold seen; rw [e]
theorem zhk (e : S b=some o) : hid H S b=none:=by unfold hid; rw [e]
theorem zau (e : S b=none) : hid H S b=H b:=by unfold hid; rw [e]
theorem zhR {u : HO} (hS : ∀ b o,S b=some o→H b=none) (e : H b=some u) : S b=none:=by
 cases q : S b with
 | none=>rfl
 | some o=>rw [hS b o q] at e; cases e
theorem zmS {u : HO} (hS : ∀ b o,S b=some o→H b=some (zbk b o)) (e : H b=some u) (hu : ∀ o,u≠zbk b o) : S b=none:=by
 cases q : S b with
 | none=>rfl
 | some o=>rw [hS b o q] at e; cases e; exact absurd rfl (hu o)
theorem seenOk (x : HOk P w H h) (hS : ∀ b o,S b=some o→h.get? b=some o∧H b=none) : HOk P w (seen H S) h:=fun b u e=>by
 cases q : S b with
 | some o =>
  rw [zc2 q] at e; cases e
  exact ⟨(hS b o q).1,(hS b o q).1,⟨o,(hS b o q).1⟩⟩
 | none =>
  rw [zai q] at e
  have hn : ∀ b o,S b=some o→H b=none:=fun b o e=>(hS b o e).2
  exact (x b u e).stay (fun _ _ _ z=>z) (fun c z=>by rw [zai (zhR hn z)]; exact z) fun c xs z=>by rw [zai (zhR hn z)]; exact z
theorem hidOk (x : HOk P w H h) (hS : ∀ b o,S b=some o→H b=some (zbk b o)) : HOk P w (hid H S) h:=fun b u e=>by
 cases q : S b with
 | some o=>rw [zhk q] at e; cases e
 | none =>
  rw [zau q] at e
  exact (x b u e).stay (fun _ _ _ z=>z) (fun c z=>by rw [zau (zmS hS z (fun o=>nofun))]; exact z) fun c xs z=>by rw [zau (zmS hS z (fun o=>nofun))]; exact z
theorem zer (x : HOk P w H h) (e : H b=some (zbk b o)) : h.get? b=some o:=(x b _ e).1
def Kept (Cb : Addr→Prop) (S : Cells) (H2 : Hp) : Prop:=∀ b,Cb b→S b=none→H2 b=none
theorem CE.unseen {Q : VK} {Cb : Addr→Prop} (c : CE outer P w (Fx.seen H S) s Q u s') (x : HOk P w (Fx.seen H S) s.heap) (hS : ∀ b o,S b=some o→H b=none) (hfr : ∀ b∈frs outer,S b=none) (hC : ∀ b,Cb b→(∃ o,s.heap.get? b=some o)∧H b=none) :
  CE outer P w H s (fun v H'=>∃ H2,H' = Fx.hid H2 S∧(∀ b o,S b=some o→H2 b=some (zbk b o))∧Kept Cb S H2∧Q v H2) u s':=by
 obtain ⟨v,H2,os,ag,un,hok,rv,q⟩:=c
 have k2 : ∀ b o,S b=some o→H2 b=some (zbk b o):=fun b o e=>un.frzs b o (.frz o (.own b)) (by rw [zc2 e]; rfl)
 refine ⟨v,Fx.hid H2 S,os,ag,⟨fun b ob q n hb he=>?_,fun b ob q n hb he=>un.slot b ob q (by rw [zai (hfr b hb)]; exact n) hb he,fun b ob q n he=>?_,fun b ob q he=>un.there b ob q he,fun b xs q=>?_,fun b ob xs q=>?_,fun b ps q=>?_⟩,hidOk hok k2,rv,H2,rfl,k2,fun b cb e=>?_,q⟩
 ·cases e : S b with
  | some o =>
   have:=zer x (zc2 e)
   rw [q] at this; cases this
   exact zer hok (k2 b _ e)
  | none=>exact un.keep b ob q (by rw [zai e]; exact n) hb he
 ·cases e : S b with
  | some o=>exact zhk e
  | none=>rw [zau e]; exact un.free b ob q (by rw [zai e]; exact n) he
 ·have e:=zhR hS q
  rw [zau e]
  exact un.tups b xs (by rw [zai e]; exact q)
 ·have e:=zhR hS q
  rw [zau e]
  exact un.frzs b ob xs (by rw [zai e]; exact q)
 ·have e:=zhR hS q
  rw [zau e]
  exact un.tbls b ps (by rw [zai e]; exact q)
 ·obtain ⟨⟨o,h1⟩,h2⟩:=hC b cb
  exact un.free b o h1 (by rw [zai e]; exact h2) (by simp)
theorem CX.unseen {E : XK} {Cb : Addr→Prop} (c : CX P w outer (Fx.seen H S) s E u s') (x : HOk P w (Fx.seen H S) s.heap) (hS : ∀ b o,S b=some o→H b=none) (hfr : ∀ b∈frs outer,S b=none) (hC : ∀ b,Cb b→(∃ o,s.heap.get? b=some o)∧H b=none) :
  CX P w outer H s (fun cls d H'=>∃ H2,H' = Fx.hid H2 S∧(∀ b o,S b=some o→H2 b=some (zbk b o))∧Kept Cb S H2∧E cls d H2) u s':=by
 obtain ⟨a,B,H2,cls,d,rfl,fl,hok,ub,na,os,ag,e⟩:=c
 have k2 : ∀ b o,S b=some o→H2 b=some (zbk b o):=fun b o e=>ub.frzs b o (.frz o (.own b)) (by rw [zc2 e]; rfl)
 refine ⟨a,B,Fx.hid H2 S,cls,d,rfl,fl,hidOk hok k2,⟨fun b ob q n hb=>?_,ub.slot,fun b ob q n=>?_,ub.there,fun b xs q=>?_,fun b ob xs q=>?_,fun b ps q=>?_⟩,?_,os,ag,H2,rfl,k2,fun b cb e=>?_,e⟩
 ·cases e : S b with
  | some o =>
   have:=zer x (zc2 e)
   rw [q] at this; cases this
   exact zer hok (k2 b _ e)
  | none=>exact ub.keep b ob q (by rw [zai e]; exact n) hb
 ·cases e : S b with
  | some o=>exact zhk e
  | none=>rw [zau e]; exact ub.free b ob q (by rw [zai e]; exact n)
 ·have e:=zhR hS q
  rw [zau e]
  exact ub.tups b xs (by rw [zai e]; exact q)
 ·have e:=zhR hS q
  rw [zau e]
  exact ub.frzs b ob xs (by rw [zai e]; exact q)
 ·have e:=zhR hS q
  rw [zau e]
  exact ub.tbls b ps (by rw [zai e]; exact q)
 ·cases e : S a with
  | some o=>exact zhk e
  | none=>rw [zau e]; exact na
 ·obtain ⟨⟨o,h1⟩,h2⟩:=hC b cb
  exact ub.free b o h1 (by rw [zai e]; exact h2)
theorem CE.resee {Q : VK} (c : CE outer P w (Fx.hid H S) s Q u s') (x : HOk P w H s.heap) (hS : ∀ b o,S b=some o→H b=some (zbk b o)) (hfr : ∀ b∈frs outer,S b=none) :
  CE outer P w H s (fun v H'=>∃ H2,H' = Fx.seen H2 S∧(∀ b o,S b=some o→H2 b=none)∧Q v H2) u s':=by
 obtain ⟨v,H2,os,ag,un,hok,rv,q⟩:=c
 have nf : ∀ b o,S b=some o→b ∉ frs outer:=fun b o e hb=>by rw [hfr b hb] at e; cases e
 have g : ∀ b o,S b=some o→s.heap.get? b=some o:=fun b o e=>zer x (hS b o e)
 have k2 : ∀ b o,S b=some o→H2 b=none:=fun b o e=>un.free b o (g b o e) (zhk e) (by simp)
 have k3 : ∀ b o,S b=some o→s'.heap.get? b=some o:=fun b o e=>un.keep b o (g b o e) (zhk e) (nf b o e) (by simp)
 have nS : ∀ b,H b=none→S b=none:=fun b n=>by
  cases e : S b with
  | none=>rfl
  | some o=>rw [hS b o e] at n; cases n
 refine ⟨v,Fx.seen H2 S,os,ag,⟨fun b ob q n hb he=>un.keep b ob q (by rw [zau (nS b n)]; exact n) hb he,fun b ob q n hb he=>un.slot b ob q (by rw [zau (nS b n)]; exact n) hb he,fun b ob q n he=>?_,fun b ob q he=>un.there b ob q he,fun b xs q=>?_,fun b ob xs q=>?_,fun b ps q=>?_⟩,seenOk hok (fun b o e=>⟨k3 b o e,k2 b o e⟩),rv,H2,rfl,k2,q⟩
 ·rw [zai (nS b n)]
  exact un.free b ob q (by rw [zau (nS b n)]; exact n) he
 ·have e:=zmS hS q (fun o=>nofun)
  rw [zai e]
  exact un.tups b xs (by rw [zau e]; exact q)
 ·cases e : S b with
  | some o =>
   rw [hS b o e] at q
   rw [zc2 e]
   exact q
  | none =>
   rw [zai e]
   exact un.frzs b ob xs (by rw [zau e]; exact q)
 ·have e:=zmS hS q (fun o=>nofun)
  rw [zai e]
  exact un.tbls b ps (by rw [zau e]; exact q)
theorem CX.resee {E : XK} (c : CX P w outer (Fx.hid H S) s E u s') (x : HOk P w H s.heap) (hS : ∀ b o,S b=some o→H b=some (zbk b o)) (hfr : ∀ b∈frs outer,S b=none) :
  CX P w outer H s (fun cls d H'=>∃ H2,H' = Fx.seen H2 S∧(∀ b o,S b=some o→H2 b=none)∧E cls d H2) u s':=by
 obtain ⟨a,B,H2,cls,d,rfl,fl,hok,ub,na,os,ag,e⟩:=c
 have nf : ∀ b o,S b=some o→b ∉ frs outer:=fun b o e hb=>by rw [hfr b hb] at e; cases e
 have g : ∀ b o,S b=some o→s.heap.get? b=some o:=fun b o e=>zer x (hS b o e)
 have k2 : ∀ b o,S b=some o→H2 b=none:=fun b o e=>ub.free b o (g b o e) (zhk e)
 have k3 : ∀ b o,S b=some o→B.get? b=some o:=fun b o e=>ub.keep b o (g b o e) (zhk e) (nf b o e)
 have nS : ∀ b,H b=none→S b=none:=fun b n=>by
  cases e : S b with
  | none=>rfl
  | some o=>rw [hS b o e] at n; cases n
 refine ⟨a,B,Fx.seen H2 S,cls,d,rfl,fl,seenOk hok (fun b o e=>⟨k3 b o e,k2 b o e⟩),⟨fun b ob q n hb=>ub.keep b ob q (by rw [zau (nS b n)]; exact n) hb,ub.slot,fun b ob q n=>?_,ub.there,fun b xs q=>?_,fun b ob xs q=>?_,fun b ps q=>?_⟩,?_,os,ag,H2,rfl,k2,e⟩
 ·rw [zai (nS b n)]
  exact ub.free b ob q (by rw [zau (nS b n)]; exact n)
 ·have e:=zmS hS q (fun o=>nofun)
  rw [zai e]
  exact ub.tups b xs (by rw [zau e]; exact q)
 ·cases e : S b with
  | some o =>
   rw [hS b o e] at q
   rw [zc2 e]
   exact q
  | none =>
   rw [zai e]
   exact ub.frzs b ob xs (by rw [zau e]; exact q)
 ·have e:=zmS hS q (fun o=>nofun)
  rw [zai e]
  exact ub.tbls b ps (by rw [zau e]; exact q)
 ·cases e : S a with
  | some o =>
   have k4:=fl.2.1
   rw [k3 a o e] at k4
   cases k4
  | none=>rw [zai e]; exact na
theorem CE.imp {Q Q' : VK} (c : CE outer P w H s Q u s') (k : ∀ v H',Q v H'→Q' v H') : CE outer P w H s Q' u s':=by
 obtain ⟨v,H2,os,ag,un,hok,rv,q⟩:=c
 exact ⟨v,H2,os,ag,un,hok,rv,k _ _ q⟩
theorem CX.imp {E E' : XK} (c : CX P w outer H s E u s') (k : ∀ v d H',E v d H'→E' v d H') : CX P w outer H s E' u s':=by
 obtain ⟨a,B,H2,cls,d,rfl,fl,hok,ub,na,os,ag,e⟩:=c
 exact ⟨a,B,H2,cls,d,rfl,fl,hok,ub,na,os,ag,k _ _ _ e⟩
end
end Fx
end
section
set_option maxHeartbeats 4000000
namespace Fx
open PySem PySem.Spec PyProof.Rows L2
def nsl : Option zaB→Option zaB
 | some (.slot _)=>none
 | some (.sub _)=>none
 | r=>r
theorem zdD {r : Option zaB} {o : zaB} (e : nsl r=some o) : r=some o∧(∀ i,o≠.slot i)∧∀ i,o≠.sub i:=by
 cases r with
 | none=>cases e
 | some q=>cases q <;> first | (cases e; exact ⟨rfl,fun _=>nofun,fun _=>nofun⟩) | cases e
theorem nsl_keep {r : Option zaB} {o : zaB} (e : r=some o) (h1 : ∀ i,o≠.slot i) (h2 : ∀ i,o≠.sub i) : nsl r=some o:=by
 subst e
 cases o with
 | slot i=>exact absurd rfl (h1 i)
 | sub i=>exact absurd rfl (h2 i)
 | _=>rfl
def SlV (G : Glb) (W : Wd) (H : Hp) (j : Nat) (s : Slot) (x : V) : Prop:=match s with
 | .val v=>Rp G W v x
 | .own v=>∃ p,x = .ref p∧W.own p=some (.slot j)∧Cur G W H v p
 | _=>True
structure ArgsR (G : Glb) (W : Wd) (H : Hp) (ss : List Slot) (vs : List V) : Prop where
 len : ss.length=vs.length
 at_ : ∀ (j : Nat) s x,ss[j]? = some s→vs[j]? = some x→SlV G W H j s x
 kind : ∀ (j : Nat) s,ss[j]? = some s→(∃ v,s = .val v)∨∃ v,s = .own v
def AvR (X : Cx) (T : Tb) (σ : St) (Hs : Hp) (W : Wd) (H : Hp) (a : AV) (x : V) : Prop:=match a with
 | .v v=>Rp (gl X T) W v x
 | .p i=>σ[i]? = some (some x)
 | .f v=>isLD v=true∧zd5 (gl X T) Hs W H v x
structure AvsR (X : Cx) (T : Tb) (σ : St) (Hs : Hp) (W : Wd) (H : Hp) (as : List AV) (xs : List V) : Prop where
 len : as.length=xs.length
 at_ : ∀ (j : Nat) a x,as[j]? = some a→xs[j]? = some x→AvR X T σ Hs W H a x
 dis : ∀ (j k : Nat) v w x,as[j]? = some (.f v)→as[k]? = some (.f w)→xs[j]? = some x→xs[k]? = some x→j=k
def ArS (fr : Fr) : AV→Slot→Prop
 | .v x,s=>s = .val x
 | .f x,s=>s = .own x
 | .p i,s=>fr[i]? = some s∧((∃ v,s = .val v)∨∃ v,s = .own v)
theorem zeL : ∀ {as : List AV} {fr : Fr} {ss : List Slot},zap as fr=some ss→ss.length=as.length∧∀ (j : Nat) a,as[j]? = some a→∃ s,ss[j]? = some s∧ArS fr a s
 | [],fr,ss,e=>by
  cases e
  exact ⟨rfl,fun j a h=>by simp at h⟩
 | a :: as,fr,ss,e=>by
  have key : ∀ {s ss'},zap as fr=some ss'→ss=s :: ss'→ArS fr a s→ss.length=(a :: as).length∧∀ (j : Nat) b,(a :: as)[j]? = some b→∃ s,ss[j]? = some s∧ArS fr b s:=fun {s ss'} e1 e2 h=>by
   obtain ⟨h1,h2⟩:=zeL e1
   subst e2
   refine ⟨by simp [h1],fun j b hb=>?_⟩
   cases j with
   | zero=>simp at hb; subst hb; exact ⟨s,rfl,h⟩
   | succ j=>simpa using h2 j b (by simpa using hb)
  cases a with
  | v x =>
   have e : (zap as fr).map (Slot.val x :: ·)=some ss:=e
   cases q : zap as fr with
   | none=>rw [q] at e; cases e
   | some ss'=>rw [q] at e; cases e; exact key q rfl rfl
  | f x =>
   have e : (zap as fr).map (Slot.own x :: ·)=some ss:=e
   cases q : zap as fr with
   | none=>rw [q] at e; cases e
   | some ss'=>rw [q] at e; cases e; exact key q rfl rfl
  | p i =>
   unfold zap at e
   cases hs : fr[i]? with
   | none=>rw [hs] at e; cases e
   | some s =>
    rw [hs] at e
    cases q : zap as fr with
    | none=>rw [q] at e; cases s <;> cases e
    | some ss' =>
     rw [q] at e
     cases s with
     | val v=>cases e; exact key q rfl ⟨hs,.inl ⟨v,rfl⟩⟩
     | own v=>cases e; exact key q rfl ⟨hs,.inr ⟨v,rfl⟩⟩
     | _=>cases e
theorem znw : ∀ {as : List AV},zex as=true→∀ (j k : Nat) (i : Nat),as[j]? = some (.p i)→as[k]? = some (.p i)→j=k
 | [],_,j,k,i,h,_=>by simp at h
 | a :: as,e,j,k,i,h1,h2=>by
  have ht : zex as=true:=by
   cases a with
   | p n=>unfold zex at e; exact (Bool.and_eq_true_iff.mp e).2
   | _=>exact e
  have hh : a = .p i→∀ m,as[m]?≠some (AV.p i):=fun q m hm=>by
   subst q
   unfold zex at e
   have:=List.all_eq_true.mp (Bool.and_eq_true_iff.mp e).1 _ (List.mem_of_getElem? hm)
   simp at this
  cases j with
  | zero =>
   cases k with
   | zero=>rfl
   | succ k=>simp at h1 h2; exact absurd h2 (hh h1 k)
  | succ j =>
   cases k with
   | zero=>simp at h1 h2; exact absurd h1 (hh h2 j)
   | succ k=>rw [znw ht j k i (by simpa using h1) (by simpa using h2)]
section
open Classical
noncomputable def zbo (ss : List Slot) (vs : List V) (q : Addr) : Option Nat:=if h : ∃ (j : Nat) (v : Val),ss[j]? = some (.own v)∧vs[j]? = some (.ref q) then some h.choose else none
theorem zbx {ss : List Slot} {vs : List V} {q : Addr} {j : Nat} (e : zbo ss vs q=some j) : ∃ v,ss[j]? = some (.own v)∧vs[j]? = some (.ref q):=by
 unfold zbo at e
 split at e
 ·rename_i h; cases e; exact h.choose_spec
 ·cases e
theorem zr7 {ss : List Slot} {vs : List V} {q : Addr} (e : zbo ss vs q=none) {j : Nat} {v : Val} (h1 : ss[j]? = some (.own v)) (h2 : vs[j]? = some (.ref q)) : False:=by
 unfold zbo at e
 split at e
 ·cases e
 ·rename_i h; exact h ⟨j,v,h1,h2⟩
end
noncomputable def Wd.into (W : Wd) (ss : List Slot) (vs : List V) : Wd:={ W with own:=fun q=>match zbo ss vs q with
 | some j=>some (zaB.slot j)
 | none=>nsl (W.own q) }
theorem ze6 {W : Wd} {ss : List Slot} {vs : List V} {q : Addr} {j : Nat} (e : zbo ss vs q=some j) : (W.into ss vs).own q=some (.slot j):=by
 show (match zbo ss vs q with | some j=>some (zaB.slot j) | none=>nsl (W.own q)) = _
 rw [e]
theorem zdm {W : Wd} {ss : List Slot} {vs : List V} {q : Addr} (e : zbo ss vs q=none) : (W.into ss vs).own q=nsl (W.own q):=by
 show (match zbo ss vs q with | some j=>some (zaB.slot j) | none=>nsl (W.own q)) = _
 rw [e]
theorem zkX {W : Wd} {ss : List Slot} {vs : List V} : Wle W (W.into ss vs):=⟨fun _ _ h=>h,fun _ _ h=>h,fun _ _ h=>h,fun _ _ h=>h,fun _ _ _ h=>h,fun _ _=>Iff.rfl,fun _ _ h=>h⟩
structure zeU (W : Wd) (H : Hp) (fr : Fr) (σ : St) (S : Cells) : Prop where
 no : ∀ b o,S b=some o→H b=none
 all : ∀ (i c : Nat) (a : Addr),fr[i]? = some (Slot.cell c)→W.κ[c]? = some a→∃ o,S a=some o∧∀ x,σ[i]? = some (some x)→RelC x o
 of : ∀ b o,S b=some o→∃ (i c : Nat),fr[i]? = some (Slot.cell c)∧W.κ[c]? = some b
section
variable {X : Cx} {T : Tb} {Wx : WX} {W W1 W' : Wd} {H H1 H' Hs : Hp} {σ : St} {fr fr1 : Fr} {h h1 : MH} {p q : Addr} {r : zaB} {as : List AV} {ss : List Slot} {vs : List V} {S : Cells}
theorem Cur.at (G : Glb) {v : Val} (c : Cur G W H v q) : ∃ o,H q=some o:=by
 cases v with
 | lst l=>obtain ⟨vs,e,_⟩:=c; exact ⟨_,e⟩
 | dct l=>obtain ⟨vs,e,_⟩:=c; exact ⟨_,e⟩
 | _=>exact c.elim
theorem zdQ (rx : RX X T W H fr σ h) (av : AvsR X T σ Hs W H as vs) (hss : zap as fr=some ss) {j : Nat} {v : Val} (h1 : ss[j]? = some (.own v)) (h2 : vs[j]? = some (.ref q)) :
  W.Z q=none∧Cur (gl X T) W H v q∧((∃ i,as[j]? = some (.p i)∧fr[i]? = some (.own v)∧W.own q=some (.slot i))∨(as[j]? = some (.f v)∧W.own q=none∧Hs q=none)):=by
 obtain ⟨hl,ha⟩:=zeL hss
 have hj : j < as.length:=by rw [← hl]; exact (List.getElem?_eq_some_iff.mp h1).1
 have hja : as[j]? = some as[j]:=List.getElem?_eq_getElem hj
 obtain ⟨s,hs,ar⟩:=ha j _ hja
 rw [h1] at hs; cases hs
 have avr:=av.at_ j _ _ hja h2
 generalize as[j]=a at hja ar avr
 cases a with
 | v x=>cases ar
 | f x =>
  have ar : Slot.own v = .own x:=ar
  cases ar
  obtain ⟨ld,p,e,h0,z,n,cu⟩:=avr
  cases e
  exact ⟨z,cu,.inr ⟨hja,n,h0⟩⟩
 | p i =>
  obtain ⟨hf,_⟩:=ar
  obtain ⟨p,hy,ow,cu⟩:=rx.f.at_ i _ hf
  have avr : σ[i]? = some (some (.ref q)):=avr
  rw [hy] at avr; cases avr
  exact ⟨rx.h.zown ow,cu,.inl ⟨i,hja,hf,ow⟩⟩
theorem lent_one (rx : RX X T W H fr σ h) (av : AvsR X T σ Hs W H as vs) (hnd : zex as=true) (hss : zap as fr=some ss) {j k : Nat} {v w : Val} (h1 : ss[j]? = some (.own v)) (h2 : vs[j]? = some (.ref q)) (h3 : ss[k]? = some (.own w)) (h4 : vs[k]? = some (.ref q)) : j=k:=by
 obtain ⟨_,_,a⟩:=zdQ rx av hss h1 h2
 obtain ⟨_,_,b⟩:=zdQ rx av hss h3 h4
 rcases a with ⟨i,a1,a2,a3⟩ | ⟨a1,a2,_⟩
 ·rcases b with ⟨i',b1,b2,b3⟩ | ⟨b1,b2,_⟩
  ·rw [a3] at b3; cases b3
   exact znw hnd j k i a1 b1
  ·rw [a3] at b2; cases b2
 ·rcases b with ⟨i',b1,b2,b3⟩ | ⟨b1,b2,_⟩
  ·rw [a2] at b3; cases b3
  ·exact av.dis j k _ _ _ a1 b1 h2 h4
theorem lentAt_is (rx : RX X T W H fr σ h) (av : AvsR X T σ Hs W H as vs) (hnd : zex as=true) (hss : zap as fr=some ss) {j : Nat} {v : Val} (h1 : ss[j]? = some (.own v)) (h2 : vs[j]? = some (.ref q)) : zbo ss vs q=some j:=by
 cases e : zbo ss vs q with
 | none=>exact (zr7 e h1 h2).elim
 | some k =>
  obtain ⟨w,h3,h4⟩:=zbx e
  rw [lent_one rx av hnd hss h1 h2 h3 h4]
theorem zjy (cs : zeU W H fr σ S) : Ext H (seen H S):=fun p o e=>by rw [zai (zhR cs.no e)]; exact e
theorem zhi (rx : RX X T W H fr σ h) (av : AvsR X T σ Hs W H as vs) (hss : zap as fr=some ss) {r : zaB} (e : W.own q=some r) (h1 : ∀ i,r≠.slot i) (h2 : ∀ i,r≠.sub i) : (W.into ss vs).own q=some r:=by
 have hn : zbo ss vs q=none:=by
  cases q' : zbo ss vs q with
  | none=>rfl
  | some j =>
   obtain ⟨v,h3,h4⟩:=zbx q'
   obtain ⟨_,_,a⟩:=zdQ rx av hss h3 h4
   rcases a with ⟨i,_,_,a3⟩ | ⟨_,a2,_⟩
   ·rw [e] at a3; cases a3; exact absurd rfl (h1 i)
   ·rw [e] at a2; cases a2
 rw [zdm hn]
 exact nsl_keep e h1 h2
theorem zjC {r : zaB} (e : (W.into ss vs).own q=some r) (h1 : ∀ i,r≠.slot i) : W.own q=some r:=by
 cases q' : zbo ss vs q with
 | some j=>rw [ze6 q'] at e; cases e; exact absurd rfl (h1 j)
 | none=>rw [zdm q'] at e; exact (zdD e).1
theorem into_slot {i : Nat} (e : (W.into ss vs).own q=some (.slot i)) : zbo ss vs q=some i:=by
 cases q' : zbo ss vs q with
 | some j=>rw [ze6 q'] at e; cases e; rfl
 | none=>rw [zdm q'] at e; exact absurd rfl ((zdD e).2.1 i)
theorem into_sub {i : Nat} (e : (W.into ss vs).own q=some (.sub i)) : False:=by
 cases q' : zbo ss vs q with
 | some j=>rw [ze6 q'] at e; cases e
 | none=>rw [zdm q'] at e; exact absurd rfl ((zdD e).2.2 i)
theorem zpI (rx : RX X T W H fr σ h) (av : AvsR X T σ Hs W H as vs) (hss : zap as fr=some ss) {o : HO} (z : W.Z q=some o) : (W.into ss vs).own q=none:=by
 have hn : zbo ss vs q=none:=by
  cases q' : zbo ss vs q with
  | none=>rfl
  | some j =>
   obtain ⟨v,h3,h4⟩:=zbx q'
   have:=(zdQ rx av hss h3 h4).1
   rw [z] at this; cases this
 rw [zdm hn,(rx.h.zin q o z).no]
 rfl
theorem call_in (rx : RX X T W H fr σ h) (av : AvsR X T σ Hs W H as vs) (hnd : zex as=true) (hss : zap as fr=some ss) (cs : zeU W H fr σ S) :
  HpR (gl X T) (W.into ss vs) (seen H S) [] [] h∧ArgsR (gl X T) (W.into ss vs) (seen H S) ss vs:=by
 have ext:=zjy cs
 have le:=zkX (W:=W) (ss:=ss) (vs:=vs)
 refine ⟨⟨fun p o z=>⟨Rd.le ext (rx.h.zin p o z).rd,zpI rx av hss z,(rx.h.zin p o z).nf,fun vs q f=>ext _ _ ((rx.h.zin p o z).ls vs q f)⟩,fun p od z=>let ⟨u,h1,h2⟩:=rx.h.fin p od z; ⟨u,h1,ext _ _ h2⟩,fun p r z=>?_,fun p p' a f z z'=>rx.h.uni p p' a f (zjC z (fun _=>nofun)) (zjC z' (fun _=>nofun)),fun q a f z=>rx.h.oas q a f (zjC z (fun _=>nofun)),rx.h.asn,rx.h.lι,rx.h.lk,fun a o ho=>?_,fun c v e=>?_,?_⟩,?_⟩
 ·have hp : ∃ o,H p=some o:=by
   cases q' : zbo ss vs p with
   | some j =>
    obtain ⟨v,h3,h4⟩:=zbx q'
    exact Cur.at _ (zdQ rx av hss h3 h4).2.1
   | none =>
    rw [zdm q'] at z
    have:=rx.h.oin p r (zdD z).1
    cases e : H p with
    | none=>exact absurd e this
    | some o=>exact ⟨o,rfl⟩
  obtain ⟨o,e⟩:=hp
  rw [ext _ _ e]; exact nofun
 ·obtain ⟨p,h1,h2,h3⟩:=rx.h.objs a o ho
  refine ⟨p,h1,zhi rx av hss h2 (fun _=>nofun) (fun _=>nofun),?_⟩
  have h3:=h3.ext ext
  cases o with
  | inst c' fs =>
   obtain ⟨C',dx,vs',hC,hp',hf,hr',hl⟩:=h3
   refine ⟨C',dx,vs',hC,hp',fun g s q=>?_,hr',hl⟩
   have k:=hf g s q
   cases s with
   | val v=>obtain ⟨x,a,b⟩:=k; exact ⟨x,a,b.le le⟩
   | own v=>obtain ⟨p,a,b,k⟩:=k; exact ⟨p,a,zhi rx av hss b (fun _=>nofun) (fun _=>nofun),k.up le⟩
   | _=>exact k
  | hl l=>exact Cur.up (v:=.lst l) le h3
  | hd l=>exact Cur.up (v:=.dct l) le h3
 ·refine .inr ⟨fun i=>by simp,?_⟩
  rcases rx.h.cells c v e with ⟨i,x,h1,h2,h3⟩ | ⟨h1,a,x,u,h2,h3,h4,h5⟩
  ·have hc : c < W.κ.length:=by rw [rx.h.lκ]; exact (List.getElem?_eq_some_iff.mp e).1
   have hk : W.κ[c]? = some W.κ[c]:=List.getElem?_eq_getElem hc
   obtain ⟨o,hS,rc⟩:=cs.all i c _ h1 hk
   exact ⟨_,x,o,hk,zc2 hS,rc x h2,h3.le le⟩
  ·exact ⟨a,x,u,h2,ext _ _ h3,h4,h5.le le⟩
 ·refine ⟨fun P nm e=>?_,rx.h.x.ki,fun c a nd e=>.inr ?_,fun k P q e=>(rx.h.x.ct k P q e).mv le.Z (fun o=>zhi rx av hss o (fun _=>nofun) (fun _=>nofun)) (fun ps h=>ext _ _ h) rfl⟩
  ·obtain ⟨o,t⟩:=rx.h.x.tab P nm e
   exact ⟨zhi rx av hss o (fun _=>nofun) (fun _=>nofun),t.mv (fun _ _ h=>h) fun ps h=>ext _ _ h⟩
  ·rcases rx.h.x.kt c a nd e with ⟨i,z⟩ | ⟨o,z⟩
   ·obtain ⟨o,hS,_⟩:=cs.all i c a z e
    exact ⟨o,zc2 hS⟩
   ·exact ⟨o,ext _ _ z⟩
 ·obtain ⟨hl,ha⟩:=zeL hss
  refine ⟨by rw [hl,av.len],fun j s x h1 h2=>?_,fun j s h1=>?_⟩
  rotate_left
  ·have hj : j < as.length:=by rw [← hl]; exact (List.getElem?_eq_some_iff.mp h1).1
   obtain ⟨s',hs,ar⟩:=ha j _ (List.getElem?_eq_getElem hj)
   rw [h1] at hs; cases hs
   generalize as[j]=a at ar
   cases a with
   | v y=>exact .inl ⟨y,ar⟩
   | f y=>exact .inr ⟨y,ar⟩
   | p i=>exact ar.2
  have hj : j < as.length:=by rw [← hl]; exact (List.getElem?_eq_some_iff.mp h1).1
  have hja : as[j]? = some as[j]:=List.getElem?_eq_getElem hj
  obtain ⟨s',hs,ar⟩:=ha j _ hja
  rw [h1] at hs; cases hs
  have avr:=av.at_ j _ _ hja h2
  have own : ∀ v,s = .own v→SlV (gl X T) (W.into ss vs) (seen H S) j s x:=fun v e=>by
   subst e
   have hx : ∃ p,x = .ref p:=by
    generalize as[j]=a at hja ar avr
    cases a with
    | v y=>cases ar
    | f y=>obtain ⟨_,p,e,_⟩:=avr; exact ⟨p,e⟩
    | p i =>
     obtain ⟨p,hy,_⟩:=rx.f.at_ i _ ar.1
     have avr : σ[i]? = some (some x):=avr
     rw [hy] at avr; cases avr
     exact ⟨p,rfl⟩
   obtain ⟨p,rfl⟩:=hx
   obtain ⟨_,cu,_⟩:=zdQ rx av hss h1 h2
   exact ⟨p,rfl,ze6 (lentAt_is rx av hnd hss h1 h2),(cu.ext ext).up le⟩
  generalize as[j]=a at hja ar avr
  cases a with
  | v y =>
   have ar : s = .val y:=ar
   subst ar
   exact Rp.le le avr
  | f y=>exact own y ar
  | p i =>
   rcases ar.2 with ⟨v,e⟩ | ⟨v,e⟩
   ·subst e
    obtain ⟨y,hy,ry⟩:=rx.f.at_ i _ ar.1
    have avr : σ[i]? = some (some x):=avr
    rw [hy] at avr; cases avr
    exact Rp.le le ry
   ·exact own v e
end
end Fx
end
section
set_option maxHeartbeats 4000000
namespace Fx
open PySem PySem.Spec PyProof.Rows L2
theorem zfL : ∀ (as : List AV) (outs : List Slot) (fr : Fr),(Fx.backTo as outs fr).length=fr.length
 | [],_,_=>by unfold Fx.backTo; rfl
 | .p i :: as,[],_=>by unfold Fx.backTo; rfl
 | .v i :: as,[],_=>by unfold Fx.backTo; rfl
 | .f i :: as,[],_=>by unfold Fx.backTo; rfl
 | .p i :: as,s :: r,fr=>by unfold Fx.backTo; rw [zfL as r]; simp
 | .v i :: as,s :: r,fr=>by unfold Fx.backTo; rw [zfL as r]
 | .f i :: as,s :: r,fr=>by unfold Fx.backTo; rw [zfL as r]
theorem zed {k : Nat} : ∀ (as : List AV) (outs : List Slot) (fr : Fr),(∀ j : Nat,as[j]?≠some (AV.p k))→(Fx.backTo as outs fr)[k]? = fr[k]?
 | [],_,_,_=>by unfold Fx.backTo; rfl
 | .p i :: as,[],_,_=>by unfold Fx.backTo; rfl
 | .v i :: as,[],_,_=>by unfold Fx.backTo; rfl
 | .f i :: as,[],_,_=>by unfold Fx.backTo; rfl
 | .p i :: as,s :: r,fr,h=>by
  unfold Fx.backTo
  rw [zed as r _ (fun j e=>h (j + 1) (by simpa using e)),List.getElem?_set_ne]
  intro e; subst e; exact h 0 rfl
 | .v i :: as,s :: r,fr,h=>by unfold Fx.backTo; exact zed as r _ (fun j e=>h (j + 1) (by simpa using e))
 | .f i :: as,s :: r,fr,h=>by unfold Fx.backTo; exact zed as r _ (fun j e=>h (j + 1) (by simpa using e))
theorem zhS {a : AV} {as : List AV} (h : zex (a :: as)=true) : zex as=true:=by
 cases a with
 | p n=>unfold zex at h; exact (Bool.and_eq_true_iff.mp h).2
 | _=>exact h
theorem zfK {k : Nat} {s : Slot} : ∀ (as : List AV) (outs : List Slot) (fr : Fr) (j : Nat),zex as=true→as[j]? = some (AV.p k)→outs[j]? = some s→k < fr.length→(Fx.backTo as outs fr)[k]? = some s
 | [],_,_,_,_,h,_,_=>by simp at h
 | a :: as,[],_,_,_,_,h,_=>by simp at h
 | a :: as,t :: r,fr,0,nd,h1,h2,hk=>by
  simp at h1 h2
  subst h1; subst h2
  unfold Fx.backTo
  rw [zed as r _ (fun j e=>by have:=znw nd 0 (j + 1) k rfl (by simpa using e); cases this),List.getElem?_set_self hk]
 | a :: as,t :: r,fr,j + 1,nd,h1,h2,hk=>by
  have h1 : as[j]? = some (AV.p k):=by simpa using h1
  have h2 : r[j]? = some s:=by simpa using h2
  cases a with
  | p i=>unfold Fx.backTo; exact zfK as r _ j (zhS nd) h1 h2 (by simpa using hk)
  | v i=>unfold Fx.backTo; exact zfK as r _ j (zhS nd) h1 h2 hk
  | f i=>unfold Fx.backTo; exact zfK as r _ j (zhS nd) h1 h2 hk
theorem zpf : ∀ {as : List AV} {ss outs : List Slot},zbV as ss outs=true→∀ (j i : Nat),as[j]? = some (AV.p i)→∃ t s,ss[j]? = some t∧outs[j]? = some s∧((∃ v,s = .val v)∨∃ v w,s = .own v∧t = .own w)
 | [],_,_,_,j,i,h=>by simp at h
 | a :: as,[],_,e,j,i,h=>by cases a <;> simp [zbV] at e
 | a :: as,t :: ss,[],e,j,i,h=>by cases a <;> cases t <;> simp [zbV] at e
 | a :: as,t :: ss,s :: r,e,j,i,h=>by
  cases j with
  | zero =>
   simp at h
   subst h
   refine ⟨t,s,rfl,rfl,?_⟩
   cases s with
   | val v=>exact .inl ⟨v,rfl⟩
   | own v =>
    cases t with
    | own w=>exact .inr ⟨v,w,rfl,rfl⟩
    | _=>simp [zbV] at e
   | _=>cases t <;> simp [zbV] at e
  | succ j =>
   have h : as[j]? = some (AV.p i):=by simpa using h
   have e2 : zbV as ss r=true:=by
    cases a with
    | p n=>cases s <;> cases t <;> first | exact e | simp [zbV] at e
    | v n=>cases s <;> cases t <;> exact e
    | f n=>cases s <;> cases t <;> exact e
   obtain ⟨t',s',h1,h2,h3⟩:=zpf e2 j i h
   exact ⟨t',s',by simpa using h1,by simpa using h2,h3⟩
section
open Classical
noncomputable def Wd.back (W2 W : Wd) : Wd:={ W2 with own:=fun q=>match W.own q with
 | some (.slot i)=>if W2.Z q=none then some (.slot i) else none
 | some (.sub i)=>some (.sub i)
 | _=>nsl (W2.own q) }
theorem zfn {W2 W : Wd} {q : Addr} {i : Nat} (e : W.own q=some (.slot i)) (z : W2.Z q=none) : (W2.back W).own q=some (.slot i):=by
 show (match W.own q with | some (.slot i)=>if W2.Z q=none then some (zaB.slot i) else none | some (.sub i)=>some (.sub i) | _=>nsl (W2.own q)) = _
 rw [e]; exact if_pos z
theorem ziv {W2 W : Wd} {q : Addr} {i : Nat} {o : HO} (e : W.own q=some (.slot i)) (z : W2.Z q=some o) : (W2.back W).own q=none:=by
 show (match W.own q with | some (.slot i)=>if W2.Z q=none then some (zaB.slot i) else none | some (.sub i)=>some (.sub i) | _=>nsl (W2.own q)) = _
 rw [e]; exact if_neg (by rw [z]; exact nofun)
theorem zoc {W2 W : Wd} {q : Addr} {i : Nat} (e : W.own q=some (.sub i)) : (W2.back W).own q=some (.sub i):=by
 show (match W.own q with | some (.slot i)=>if W2.Z q=none then some (zaB.slot i) else none | some (.sub i)=>some (.sub i) | _=>nsl (W2.own q)) = _
 rw [e]
theorem zfo {W2 W : Wd} {q : Addr} (h1 : ∀ i,W.own q≠some (.slot i)) (h2 : ∀ i,W.own q≠some (.sub i)) : (W2.back W).own q=nsl (W2.own q):=by
 show (match W.own q with | some (.slot i)=>if W2.Z q=none then some (zaB.slot i) else none | some (.sub i)=>some (.sub i) | _=>nsl (W2.own q)) = _
 cases e : W.own q with
 | none=>rfl
 | some r =>
  cases r with
  | slot i=>exact absurd e (h1 i)
  | sub i=>exact absurd e (h2 i)
  | _=>rfl
end
theorem zfa (W : Wd) (q : Addr) : (∃ i,W.own q=some (.slot i))∨(∃ i,W.own q=some (.sub i))∨((∀ i,W.own q≠some (.slot i))∧∀ i,W.own q≠some (.sub i)):=by
 cases e : W.own q with
 | none=>exact .inr (.inr ⟨fun _=>nofun,fun _=>nofun⟩)
 | some r =>
  cases r with
  | slot i=>exact .inl ⟨i,rfl⟩
  | sub i=>exact .inr (.inl ⟨i,rfl⟩)
  | _=>exact .inr (.inr ⟨fun _=>nofun,fun _=>nofun⟩)
theorem RelC.inj {x y : V} {o : Obj} (a : RelC x o) (b : RelC y o) : x=y:=by
 obtain ⟨u,h1,h2⟩:=a
 obtain ⟨w,h3,h4⟩:=b
 rw [h1] at h3
 cases h3
 cases x <;> cases y <;> first
  | (cases h2; cases h4; rfl)
  | (cases h2; cases h4; done)
  | (obtain ⟨t,e1⟩:=h2; obtain ⟨t',e2⟩:=h4; rw [e1] at e2; cases e2; rfl)
  | (obtain ⟨t,e1⟩:=h2; cases e1; cases h4; done)
  | (obtain ⟨t,e1⟩:=h4; cases e1; cases h2; done)
  | (obtain ⟨t,e1⟩:=h2; obtain ⟨t',e2⟩:=h4; rw [e1] at e2; cases e2; done)
section
variable {X : Cx} {T : Tb} {Wx : WX} {W W2 Ws : Wd} {H H2 Hs : Hp} {σ : St} {fr fr1 : Fr} {h h2 : MH} {p q : Addr} {r : zaB} {as : List AV} {ss outs : List Slot} {vs : List V} {S : Cells} {lent : List Nat}
theorem zd8 {W3 : Wd} {H3 : Hp} {v : Val} {G : Glb} (le : Wle W W3) (e : H3 q=H q) (c : Cur G W H v q) : Cur G W3 H3 v q:=by
 cases v with
 | lst l=>obtain ⟨vs,a,b⟩:=c; exact ⟨vs,by rw [e]; exact a,b.le le⟩
 | dct l=>obtain ⟨vs,a,b⟩:=c; exact ⟨vs,by rw [e]; exact a,b.le le⟩
 | _=>exact c
theorem ze5 (rx : RX X T W H fr σ h) (cs : zeU W H fr σ S) (ev : Evo (W.into ss vs) (seen H S) W2 H2) {o : HO} (hp : H p=some o) (z : W.Z p=none) (n : (W.into ss vs).own p=none) : H2 p=some o∧W2.own p=none∧W2.Z p=none:=by
 have hs : seen H S p=some o:=zjy cs _ _ hp
 exact ⟨(ev.stay p o hs z n).1,(ev.stay p o hs z n).2,ev.thaw p o hs z n⟩
theorem cell_out (rx : RX X T W H fr σ h) (av : AvsR X T σ Hs W H as vs) (hss : zap as fr=some ss) (cs : zeU W H fr σ S) (ev : Evo (W.into ss vs) (seen H S) W2 H2) {b : Addr} {o : Obj} (e : S b=some o) : W2.Z b=none∧W2.own b=none:=by
 have hn:=cs.no b o e
 have z : W.Z b=none:=by
  cases q : W.Z b with
  | none=>rfl
  | some u =>
   rcases (rx.h.zin b u q).rd with a | ⟨_,a⟩ <;> (rw [hn] at a; cases a)
 have n : (W.into ss vs).own b=none:=by
  cases q : zbo ss vs b with
  | some j =>
   obtain ⟨v,h3,h4⟩:=zbx q
   obtain ⟨o',e'⟩:=Cur.at _ (zdQ rx av hss h3 h4).2.1
   rw [hn] at e'; cases e'
  | none =>
   rw [zdm q]
   cases q2 : W.own b with
   | none=>rfl
   | some r=>exact absurd hn (rx.h.oin b r q2)
 have hs : seen H S b=some (zbk b o):=zc2 e
 exact ⟨ev.thaw b _ hs z n,(ev.stay b _ hs z n).2⟩
theorem zpJ (rx : RX X T W H fr σ h) (av : AvsR X T σ Hs W H as vs) (hss : zap as fr=some ss) (h1 : ∀ i,W.own p=some (.slot i)→∀ j : Nat,as[j]?≠some (AV.p i)) (h2 : (∃ i,W.own p=some (.slot i))∨∃ i,W.own p=some (.sub i)) : (W.into ss vs).own p=none:=by
 cases q : zbo ss vs p with
 | some j =>
  obtain ⟨v,h3,h4⟩:=zbx q
  rcases (zdQ rx av hss h3 h4).2.2 with ⟨i,a1,_,a3⟩ | ⟨_,a2,_⟩
  ·exact absurd a1 (h1 i a3 j)
  ·rcases h2 with ⟨i,e⟩ | ⟨i,e⟩ <;> (rw [a2] at e; cases e)
 | none =>
  rw [zdm q]
  rcases h2 with ⟨i,e⟩ | ⟨i,e⟩ <;> (rw [e]; rfl)
theorem own3 (rx : RX X T W H fr σ h) (av : AvsR X T σ Hs W H as vs) (hss : zap as fr=some ss) (cs : zeU W H fr σ S) (ev : Evo (W.into ss vs) (seen H S) W2 H2) {r : zaB} (e : W2.own p=some r) (h1 : ∀ i,r≠.slot i) (h2 : ∀ i,r≠.sub i) : (W2.back W).own p=some r:=by
 have key : ∀ r0,W.own p=some r0→(∀ j,(W.into ss vs).own p≠some (.slot j))→(W.into ss vs).own p=none→False:=fun r0 e0 _ n=>by
  obtain ⟨o,ho⟩ : ∃ o,H p=some o:=by
   cases q : H p with
   | none=>exact absurd q (rx.h.oin p r0 e0)
   | some o=>exact ⟨o,rfl⟩
  have:=(ze5 rx cs ev ho (rx.h.zown e0) n).2.1
  rw [e] at this; cases this
 have kp : ∀ r0 j,W.own p=some r0→(W.into ss vs).own p=some (.slot j)→False:=fun r0 j e0 e1=>by
  obtain ⟨o,ho⟩ : ∃ o,H p=some o:=by
   cases q : H p with
   | none=>exact absurd q (rx.h.oin p r0 e0)
   | some o=>exact ⟨o,rfl⟩
  have:=ev.zih p o _ _ (zjy cs _ _ ho) e1 e
  exact h1 j this
 rcases zfa W p with ⟨i,e0⟩ | ⟨i,e0⟩ | ⟨n1,n2⟩
 ·exfalso
  cases q : (W.into ss vs).own p with
  | none=>exact key _ e0 (fun j z=>by rw [q] at z; cases z) q
  | some r1 =>
   cases q2 : zbo ss vs p with
   | some j=>exact kp _ j e0 (ze6 q2)
   | none=>rw [zdm q2,e0] at q; cases q
 ·exfalso
  cases q : (W.into ss vs).own p with
  | none=>exact key _ e0 (fun j z=>by rw [q] at z; cases z) q
  | some r1 =>
   cases q2 : zbo ss vs p with
   | some j=>exact kp _ j e0 (ze6 q2)
   | none=>rw [zdm q2,e0] at q; cases q
 ·rw [zfo n1 n2]
  exact nsl_keep e h1 h2
theorem zjI {r : zaB} (e : (W2.back W).own p=some r) (h1 : ∀ i,r≠.slot i) (h2 : ∀ i,r≠.sub i) : W2.own p=some r:=by
 rcases zfa W p with ⟨i,e0⟩ | ⟨i,e0⟩ | ⟨n1,n2⟩
 ·cases z : W2.Z p with
  | none=>rw [zfn e0 z] at e; cases e; exact absurd rfl (h1 i)
  | some o=>rw [ziv e0 z] at e; cases e
 ·rw [zoc e0] at e; cases e; exact absurd rfl (h2 i)
 ·rw [zfo n1 n2] at e
  exact (zdD e).1
theorem zeK : Wle W2 (W2.back W):=⟨fun _ _ h=>h,fun _ _ h=>h,fun _ _ h=>h,fun _ _ h=>h,fun _ _ _ h=>h,fun _ _=>Iff.rfl,fun _ _ h=>h⟩
theorem call_evo (rx : RX X T W H fr σ h) (evs : Evo Ws Hs W H) (av : AvsR X T σ Hs W H as vs) (hss : zap as fr=some ss) (cs : zeU W H fr σ S) (ev : Evo (W.into ss vs) (seen H S) W2 H2) : Evo Ws Hs (W2.back W) (hid H2 S):=by
 have le3 : Wle W (W2.back W):=(zkX.trans ev.le).trans zeK
 -- nothing that stood at the start is lent but what a slot held
 have nof : ∀ {p o},Hs p=some o→W.own p=none→(W.into ss vs).own p=none:=fun {p o} hp n=>by
  cases q : zbo ss vs p with
  | some j =>
   obtain ⟨v,h3,h4⟩:=zbx q
   rcases (zdQ rx av hss h3 h4).2.2 with ⟨i,_,_,a3⟩ | ⟨_,_,a4⟩
   ·rw [n] at a3; cases a3
   ·rw [hp] at a4; cases a4
  | none=>rw [zdm q,n]; rfl
 have nb : ∀ {p},W.own p=none→W2.own p=none→(W2.back W).own p=none:=fun {p} n n2=>by
  rw [zfo (by rw [n]; exact fun _=>nofun) (by rw [n]; exact fun _=>nofun),n2]; rfl
 refine ⟨evs.le.trans le3,fun p o hp z n=>?_,fun p o hp z n=>?_,fun a f q=>ev.asn a f (evs.asn a f q),fun a f q as' o=>?_,fun p e=>?_,fun p o r r' hp e1 e2=>?_,fun p o z n=>?_⟩
 ·obtain ⟨h1,n1⟩:=evs.stay p o hp z n
  obtain ⟨a,b,_⟩:=ze5 rx cs ev h1 (evs.thaw p o hp z n) (nof hp n1)
  exact ⟨by rw [zau (zhR cs.no h1)]; exact a,nb n1 b⟩
 ·obtain ⟨h1,n1⟩:=evs.stay p o hp z n
  exact (ze5 rx cs ev h1 (evs.thaw p o hp z n) (nof hp n1)).2.2
 ·have o2:=zjI o (fun _=>nofun) (fun _=>nofun)
  have o1:=ev.hold a f q (evs.asn a f as') o2
  exact evs.hold a f q as' (zjC o1 (fun _=>nofun))
 ·cases e0 : S p with
  | some o=>exact evs.dom p (cs.no p o e0)
  | none =>
   rw [zau e0] at e
   have:=ev.dom p e
   rw [zai e0] at this
   exact evs.dom p this
 ·obtain ⟨o1,h1⟩ : ∃ o1,H p=some o1:=by
   cases q : H p with
   | none=>rw [evs.dom p q] at hp; cases hp
   | some o1=>exact ⟨o1,rfl⟩
  cases e0 : W.own p with
  | some r1 =>
   have:=evs.zih p o r r1 hp e1 e0
   subst this
   rcases zfa W p with ⟨i,e3⟩ | ⟨i,e3⟩ | ⟨n1,n2⟩
   ·rw [e0] at e3; cases e3
    cases z : W2.Z p with
    | none=>rw [zfn e0 z] at e2; cases e2; rfl
    | some o=>rw [ziv e0 z] at e2; cases e2
   ·rw [e0] at e3; cases e3
    rw [zoc e0] at e2; cases e2; rfl
   ·rw [zfo n1 n2] at e2
    have e4:=(zdD e2).1
    exact ev.zih p o1 _ _ (zjy cs _ _ h1) (zhi rx av hss e0 (fun i z=>n1 i (by rw [e0,z])) (fun i z=>n2 i (by rw [e0,z]))) e4
  | none =>
   have n:=nof hp e0
   exfalso
   rw [zfo (by rw [e0]; exact fun _=>nofun) (by rw [e0]; exact fun _=>nofun)] at e2
   have e4:=(zdD e2).1
   cases z : W.Z p with
   | none =>
    have:=(ze5 rx cs ev h1 z n).2.1
    rw [e4] at this; cases this
   | some u =>
    have:=ev.zown p u z n
    rw [e4] at this; cases this
 ·have n1:=evs.zown p o z n
  have z1:=evs.le.Z p o z
  exact nb n1 (ev.zown p o z1 (zpI rx av hss z1))
end
end Fx
end
section
set_option maxHeartbeats 4000000
namespace Fx
open PySem PySem.Spec PyProof.Rows L2
theorem zn9 {cs : List (Option Val)} : ∀ (r : List Slot) (cs' : List (Option Val)),(reCs cs r cs').length=cs'.length
 | [],_=>rfl
 | s :: r,cs'=>by
  cases s with
  | cell c =>
   unfold reCs
   rw [zn9 r]
   split <;> simp
  | _=>exact zn9 r cs'
theorem zgN {cs : List (Option Val)} {c : Nat} {v : Val} : ∀ (r : List Slot) (cs' : List (Option Val)),(reCs cs r cs')[c]? = some (some v)→cs'[c]? = some (some v)∧∀ i : Nat,r[i]? = some (Slot.cell c)→∃ v0,cs[c]? = some (some v0)
 | [],cs',e=>⟨e,fun i z=>by simp at z⟩
 | s :: r,cs',e=>by
  have other : (∀ c',s≠.cell c')→reCs cs (s :: r) cs' = reCs cs r cs':=fun hs=>by
   cases s <;> first | rfl | exact absurd rfl (hs _)
  by_cases hs : ∃ c',s = .cell c'
  ·obtain ⟨c',rfl⟩:=hs
   unfold reCs at e
   obtain ⟨h1,h2⟩:=zgN r _ e
   cases q : cs[c']? with
   | none =>
    rw [q] at h1
    dsimp only at h1
    by_cases ec : c' = c
    ·subst ec
     rw [List.getElem?_set] at h1
     simp at h1
    ·rw [List.getElem?_set_ne ec] at h1
     refine ⟨h1,fun i z=>?_⟩
     cases i with
     | zero=>simp at z; exact absurd z ec
     | succ i=>exact h2 i (by simpa using z)
   | some o =>
    cases o with
    | none =>
     rw [q] at h1
     dsimp only at h1
     by_cases ec : c' = c
     ·subst ec
      rw [List.getElem?_set] at h1
      simp at h1
     ·rw [List.getElem?_set_ne ec] at h1
      refine ⟨h1,fun i z=>?_⟩
      cases i with
      | zero=>simp at z; exact absurd z ec
      | succ i=>exact h2 i (by simpa using z)
    | some v0 =>
     rw [q] at h1
     refine ⟨h1,fun i z=>?_⟩
     cases i with
     | zero=>simp at z; subst z; exact ⟨v0,q⟩
     | succ i=>exact h2 i (by simpa using z)
  ·rw [other (fun c' z=>hs ⟨c',z⟩)] at e
   obtain ⟨h1,h2⟩:=zgN r _ e
   refine ⟨h1,fun i z=>?_⟩
   cases i with
   | zero=>simp at z; exact absurd ⟨c,z⟩ hs
   | succ i=>exact h2 i (by simpa using z)
section
variable {X : Cx} {T : Tb} {Wx : WX} {W W2 Ws : Wd} {H H2 Hs : Hp} {σ : St} {fr fr1 : Fr} {h h2 : MH} {p q : Addr} {r : zaB} {as : List AV} {ss outs : List Slot} {vs : List V} {S : Cells} {lent : List Nat}
def OutR (G : Glb) (W : Wd) (H : Hp) (lent : List Nat) (outs : List Slot) (vs : List V) : Prop:=∀ j∈lent,∀ s x,outs[j]? = some s→vs[j]? = some x→SlV G W H j s x
theorem zpX (rx : RX X T W H fr σ h) (av : AvsR X T σ Hs W H as vs) (hnd : zex as=true) (hss : zap as fr=some ss) (cs : zeU W H fr σ S)
  (hl : ∀ (j i : Nat),as[j]? = some (AV.p i)→j∈lent) (ev : Evo (W.into ss vs) (seen H S) W2 H2) (hr : HpR (gl X T) W2 H2 [] [] h2) (k2 : ∀ b o,S b=some o→H2 b=some (zbk b o))
  (out : OutR (gl X T) W2 H2 lent outs vs) (ok : zbV as ss outs=true) : RX X T (W2.back W) (hid H2 S) (Fx.backTo as outs fr) σ (reC fr h h2):=by
 have le3 : Wle W (W2.back W):=(zkX.trans ev.le).trans zeK
 have le2 : Wle W2 (W2.back W):=zeK
 have nd2 : ∀ (i c : Nat),fr[i]? = some (Slot.cell c)→¬ W2.dd c:=fun i c e n=>by
  obtain ⟨_,_,h2⟩:=rx.k i c (rx.f.at_ i _ e)
  exact rx.kk.2 i c (rx.f.at_ i _ e) (((zkX.trans ev.le).dd c (List.getElem?_eq_some_iff.mp h2).1).mp n)
 have co : ∀ {b o},S b=some o→W2.Z b=none∧W2.own b=none:=fun e=>cell_out rx av hss cs ev e
 have o3 : ∀ {p r},W2.own p=some r→(∀ i,r≠.slot i)→(∀ i,r≠.sub i)→(W2.back W).own p=some r:=fun e a b=>own3 rx av hss cs ev e a b
 have sz : ∀ {p u},W2.Z p=some u→S p=none:=fun {p u} e=>by
  cases q : S p with
  | none=>rfl
  | some o=>rw [(co q).1] at e; cases e
 have so : ∀ {p r},W2.own p=some r→S p=none:=fun {p r} e=>by
  cases q : S p with
  | none=>rfl
  | some o=>rw [(co q).2] at e; cases e
 have sh : ∀ {p u},H p=some u→S p=none:=fun e=>zhR cs.no e
 have at_ : ∀ {p},S p=none→hid H2 S p=H2 p:=fun e=>zau e
 obtain ⟨hsl,hsa⟩:=zeL hss
 -- a slot of the frame
 have slotA : ∀ (k j : Nat),as[j]? = some (AV.p k)→∃ s x,outs[j]? = some s∧(Fx.backTo as outs fr)[k]? = some s∧zbO (gl X T) (W2.back W) (hid H2 S) X.N T.cm σ k s∧((∃ v,s = .val v)∨∃ v,s = .own v)∧∃ t,fr[k]? = some t∧((∃ v,t = .val v)∨∃ v,t = .own v):=fun k j hj=>by
  obtain ⟨t,s,h1,h2',h3⟩:=zpf ok j k hj
  obtain ⟨t',h4,ar⟩:=hsa j _ hj
  rw [h1] at h4; cases h4
  have hk : k < fr.length:=(List.getElem?_eq_some_iff.mp ar.1).1
  have hv : j < vs.length:=by rw [← av.len]; exact (List.getElem?_eq_some_iff.mp hj).1
  have hx : vs[j]? = some vs[j]:=List.getElem?_eq_getElem hv
  have hσ : σ[k]? = some (some vs[j]):=av.at_ j _ _ hj hx
  have sv:=out j (hl j k hj) s _ h2' hx
  refine ⟨s,vs[j],h2',zfK as outs fr j hnd hj h2' hk,?_,?_,t,ar.1,ar.2⟩
  ·rcases h3 with ⟨v,rfl⟩ | ⟨v,w,rfl,rfl⟩
   ·exact ⟨_,hσ,Rp.le le2 sv⟩
   ·obtain ⟨p,e,ow,cu⟩:=sv
    obtain ⟨p0,hy,ow0,cu0⟩:=rx.f.at_ k _ ar.1
    rw [hσ] at hy
    rw [e] at hy hσ
    cases hy
    exact ⟨p,hσ,zfn ow0 (hr.zown ow),zd8 le2 (at_ (so ow)) cu⟩
  ·rcases h3 with ⟨v,rfl⟩ | ⟨v,w,rfl,_⟩
   ·exact .inl ⟨v,rfl⟩
   ·exact .inr ⟨v,rfl⟩
 have slotB : ∀ (k : Nat),(∀ j : Nat,as[j]?≠some (AV.p k))→∀ s,fr[k]? = some s→zbO (gl X T) (W2.back W) (hid H2 S) X.N T.cm σ k s:=fun k nk s hs=>by
  have c:=rx.f.at_ k s hs
  have stay : ∀ {p : Addr} {o : HO},H p=some o→(W.own p=some (.slot k)∨W.own p=some (.sub k))→hid H2 S p=H p∧W2.Z p=none:=fun {p o} hp e=>by
   have n:=zpJ rx av hss (p:=p) (fun i z j hj=>by
    rcases e with e | e
    ·rw [z] at e; cases e; exact nk j hj
    ·rw [z] at e; cases e) (by rcases e with e | e; exact .inl ⟨_,e⟩; exact .inr ⟨_,e⟩)
   have zz : W.Z p=none:=by rcases e with e | e <;> exact rx.h.zown e
   obtain ⟨a,b,d⟩:=ze5 rx cs ev hp zz n
   exact ⟨by rw [at_ (sh hp),a,hp],d⟩
  cases s with
  | un=>trivial
  | val v=>obtain ⟨x,a,b⟩:=c; exact ⟨x,a,b.le le3⟩
  | own v =>
   obtain ⟨p,a,b,cu⟩:=c
   obtain ⟨o,ho⟩:=Cur.at _ cu
   obtain ⟨e1,e2⟩:=stay ho (.inl b)
   exact ⟨p,a,zfn b e2,zd8 le3 e1 cu⟩
  | own2 v =>
   obtain ⟨p,a,b,k'⟩:=c
   cases v with
   | lst l =>
    obtain ⟨qs,h1,h2,h3⟩:=k'
    obtain ⟨e1,e2⟩:=stay h1 (.inl b)
    refine ⟨p,a,zfn b e2,qs,by rw [e1]; exact h1,h2,Paired.imp2 (fun m q z=>?_) h3⟩
    obtain ⟨o,ho⟩:=Cur.at _ z.2
    obtain ⟨e3,_⟩:=stay ho (.inr z.1)
    exact ⟨zoc z.1,zd8 le3 e3 z.2⟩
   | _=>exact k'.elim
  | cell c'=>exact c
  | exc c' v=>obtain ⟨x,a,b⟩:=c; exact ⟨x,a,b.le le3⟩
 have pick : ∀ k : Nat,(∃ j : Nat,as[j]? = some (AV.p k))∨∀ j : Nat,as[j]?≠some (AV.p k):=fun k=>by
  by_cases e : ∃ j : Nat,as[j]? = some (AV.p k)
  ·exact .inl e
  ·exact .inr fun j z=>e ⟨j,z⟩
 have cellB : ∀ (i c : Nat),(Fx.backTo as outs fr)[i]? = some (Slot.cell c)↔fr[i]? = some (Slot.cell c):=fun i c=>by
  rcases pick i with ⟨j,hj⟩ | nk
  ·obtain ⟨s,x,_,e,_,k1,t,e2,k2⟩:=slotA i j hj
   rw [e,e2]
   constructor
   ·intro z; cases z
    rcases k1 with ⟨v,z⟩ | ⟨v,z⟩ <;> cases z
   ·intro z; cases z
    rcases k2 with ⟨v,z⟩ | ⟨v,z⟩ <;> cases z
  ·rw [zed as outs fr nk]
 refine ⟨⟨by rw [zfL,rx.f.len],fun k s e=>?_,fun i j c e1 e2=>rx.f.inj i j c ((cellB i c).mp e1) ((cellB j c).mp e2)⟩,⟨fun p o z=>⟨?_,?_,(hr.zin p o z).nf,fun vs q=>by rw [at_ (sz z)]; exact (hr.zin p o z).ls vs q⟩,fun p od z=>?_,fun p r z=>?_,fun p p' a f z z'=>hr.uni p p' a f (zjI z (fun _=>nofun) (fun _=>nofun)) (zjI z' (fun _=>nofun) (fun _=>nofun)),fun q a f z=>hr.oas q a f (zjI z (fun _=>nofun) (fun _=>nofun)),hr.asn,hr.lι,⟨by show W2.κ.length = _; rw [hr.lκ]; exact (zn9 fr h2.cells).symm,fun c v e=>hr.lk.2 c v (zgN fr h2.cells e).1⟩,fun a o ho=>?_,fun c v e=>?_,?_⟩,zpx le3 rx.kk⟩
 ·rcases pick k with ⟨j,hj⟩ | nk
  ·obtain ⟨s',x,_,e',sr,_⟩:=slotA k j hj
   rw [e] at e'; cases e'
   exact sr
  ·rw [zed as outs fr nk] at e
   exact slotB k nk s e
 ·have z : W2.Z p=some o:=z
  rcases (hr.zin p o z).rd with a | ⟨od,a⟩
  ·exact .inl (by rw [at_ (sz z)]; exact a)
  ·exact .inr ⟨od,by rw [at_ (sz z)]; exact a⟩
 ·have z : W2.Z p=some o:=z
  rcases zfa W p with ⟨i,e0⟩ | ⟨i,e0⟩ | ⟨n1,n2⟩
  ·exact ziv e0 z
  ·exfalso
   obtain ⟨u,hu⟩ : ∃ u,H p=some u:=by
    cases q : H p with
    | none=>exact absurd q (rx.h.oin p _ e0)
    | some u=>exact ⟨u,rfl⟩
   have n:=zpJ rx av hss (p:=p) (fun i' z' j hj=>by rw [e0] at z'; cases z') (.inr ⟨_,e0⟩)
   have:=(ze5 rx cs ev hu (rx.h.zown e0) n).2.2
   rw [z] at this; cases this
  ·rw [zfo n1 n2,(hr.zin p o z).no]; rfl
 ·obtain ⟨u,h1,h2'⟩:=hr.fin p od z
  exact ⟨u,h1,by rw [at_ (sz h1)]; exact h2'⟩
 ·have key : ∀ r0,W.own p=some r0→hid H2 S p≠none:=fun r0 e0=>by
   obtain ⟨u,hu⟩ : ∃ u,H p=some u:=by
    cases q : H p with
    | none=>exact absurd q (rx.h.oin p _ e0)
    | some u=>exact ⟨u,rfl⟩
   rw [at_ (sh hu)]
   intro e
   have:=ev.dom p e
   rw [zai (sh hu),hu] at this
   cases this
  rcases zfa W p with ⟨i,e0⟩ | ⟨i,e0⟩ | ⟨n1,n2⟩
  ·exact key _ e0
  ·exact key _ e0
  ·rw [zfo n1 n2] at z
   have e:=(zdD z).1
   rw [at_ (so e)]
   exact hr.oin p r e
 ·obtain ⟨p,h1,h2',h3⟩:=hr.objs a o ho
  refine ⟨p,h1,o3 h2' (fun _=>nofun) (fun _=>nofun),?_⟩
  have e1 : hid H2 S p=H2 p:=at_ (so h2')
  cases o with
  | inst c' fs =>
   obtain ⟨C',dx,vs',hC,hp',hf,hr',hl'⟩:=h3
   refine ⟨C',dx,vs',hC,by rw [e1]; exact hp',fun g s q=>?_,hr',hl'⟩
   have k:=hf g s q
   cases s with
   | val v=>obtain ⟨x,a,b⟩:=k; exact ⟨x,a,b.le le2⟩
   | own v=>obtain ⟨q',a,b,k⟩:=k; exact ⟨q',a,o3 b (fun _=>nofun) (fun _=>nofun),zd8 le2 (at_ (so b)) k⟩
   | _=>exact k
  | hl l=>exact zd8 (v:=.lst l) le2 e1 h3
  | hd l=>exact zd8 (v:=.dct l) le2 e1 h3
 ·have e : (reCs h.cells fr h2.cells)[c]? = some (some v):=e
  obtain ⟨e,alive⟩:=zgN fr h2.cells e
  rcases hr.cells c v e with ⟨i,x,h1,_,_⟩ | ⟨_,a,x,u,h3,h4,h5,h6⟩
  ·simp at h1
  ·cases e0 : S a with
   | some o =>
    obtain ⟨i,c',e1,e2⟩:=cs.of a o e0
    have e3 : W2.κ[c']? = some a:=ev.le.κ _ _ e2
    have ec:=hr.x.ki c c' a (hr.lk.2 c v e) (nd2 i c' e1) h3 e3
    subst ec
    have e4:=k2 a o e0
    rw [h4] at e4
    have e4 : zbk a u=zbk a o:=Option.some.inj e4
    have eu : u=o:=by unfold zbk at e4; cases e4; rfl
    subst eu
    obtain ⟨o',e5,rc⟩:=cs.all i c a e1 e2
    rw [e0] at e5; cases e5
    -- the slot holds what the cell holds
    obtain ⟨v0,e7⟩:=alive i e1
    rcases rx.h.cells c v0 e7 with ⟨i',y,e8,e6,_⟩ | ⟨e8,_⟩
    ·have:=rx.f.inj i i' c e1 e8
     subst this
     have:=RelC.inj (rc y e6) h5
     subst this
     exact .inl ⟨i,y,(cellB i c).mpr e1,e6,h6.le le2⟩
    ·exact absurd e1 (e8 i)
   | none =>
    refine .inr ⟨fun i z=>?_,a,x,u,h3,by rw [at_ e0]; exact h4,h5,h6.le le2⟩
    have z:=(cellB i c).mp z
    obtain ⟨a',e1,e2⟩:=rx.k i c (by have:=rx.f.at_ i _ z; exact this)
    have e3 : W2.κ[c]? = some a':=ev.le.κ _ _ e2
    rw [h3] at e3; cases e3
    obtain ⟨o,e4,_⟩:=cs.all i c a z e2
    rw [e0] at e4; cases e4
 ·refine ⟨fun P nm e=>?_,hr.x.ki,fun c a nd e=>?_,fun k P q e=>?_⟩
  rotate_right
  ·have c:=hr.x.ct k P q e
   exact c.mv (fun p o z=>zeK.Z p o z) (fun o=>o3 o (fun _=>nofun) (fun _=>nofun)) (fun ps h=>by rw [at_ (so c.ow)]; exact h) rfl
  ·obtain ⟨o,t⟩:=hr.x.tab P nm e
   exact ⟨o3 o (fun _=>nofun) (fun _=>nofun),t.mv (fun _ _ h=>h) fun ps h=>by rw [at_ (so o)]; exact h⟩
  ·rcases hr.x.kt c a nd e with ⟨i,z⟩ | ⟨o,z⟩
   ·simp at z
   ·cases e0 : S a with
    | some o' =>
     obtain ⟨i,c',e1,e2⟩:=cs.of a o' e0
     have e3 : W2.κ[c']? = some a:=ev.le.κ _ _ e2
     have ec:=hr.x.ki c c' a nd (nd2 i c' e1) e e3
     subst ec
     exact .inl ⟨i,(cellB i c).mpr e1⟩
    | none=>exact .inr ⟨o,by rw [at_ e0]; exact z⟩
end
end Fx
end
section
set_option maxHeartbeats 4000000
namespace Fx
open PySem PySem.Spec PyProof.Rows L2
structure CmOk (X : Cx) (T : Tb) : Prop where
 at_ : ∀ i a,T.cm.a i=some a→∃ x,X.N[i]? = some x∧X.env.cells.lookup x=some a∧(X.env.scope.names.lookup x=some .cell∨X.env.scope.names.lookup x=some .free)∧X.base.get? a=none∧(X.s_0.heap.objs.size≤a∨a ∉ X.fs)
structure CellsAt (J : Nat→Option Addr) (σ : St) (H : Hp) (S : Cells) : Prop where
 no : ∀ b o,S b=some o→H b=none
 all : ∀ i a,J i=some a→∃ o,S a=some o∧∀ x,σ[i]? = some (some x)→RelC x o
 of : ∀ b o,S b=some o→∃ i,J i=some b
section
open Classical
variable {X : Cx} {T : Tb} {pins : List (Addr × Obj)} {σ : St} {H : Hp} {s : Shared} {J : Nat→Option Addr}
theorem zoa (cm : CmOk X T) (I : Inv X pins σ H s) (hJ : ∀ i a,J i=some a→T.cm.a i=some a) : ∃ S : Cells,CellsAt J σ H S∧(∀ b o,S b=some o→s.heap.get? b=some o∧X.base.get? b=none)∧∀ b∈frs X.stack,S b=none:=by
 let S : Cells:=fun b=>if ∃ i,J i=some b then s.heap.get? b else none
 have hS : ∀ b o,S b=some o→(∃ i,J i=some b)∧s.heap.get? b=some o:=fun b o e=>by
  have e : (if ∃ i,J i=some b then s.heap.get? b else none)=some o:=e
  by_cases q : ∃ i,J i=some b
  ·rw [if_pos q] at e; exact ⟨q,e⟩
  ·rw [if_neg q] at e; cases e
 have cell : ∀ b o,S b=some o→∃ x,X.env.cells.lookup x=some b∧X.base.get? b=none∧(X.s_0.heap.objs.size≤b∨b ∉ X.fs):=fun b o e=>by
  obtain ⟨⟨i,hi⟩,_⟩:=hS b o e
  obtain ⟨x,_,h2,_,h4,h5⟩:=cm.at_ i b (hJ i b hi)
  exact ⟨x,h2,h4,h5⟩
 refine ⟨S,⟨fun b o e=>?_,fun i a e=>?_,fun b o e=>(hS b o e).1⟩,fun b o e=>⟨(hS b o e).2,let ⟨_,_,z,_⟩:=cell b o e; z⟩,fun b hb=>?_⟩
 ·obtain ⟨x,h,_⟩:=cell b o e
  exact I.freeC x b h
 ·obtain ⟨x,h1,h2,h3,_⟩:=cm.at_ i a (hJ i a e)
  obtain ⟨v,o,ho,hd⟩:=I.cell x a h2
  refine ⟨o,(if_pos ⟨i,e⟩).trans ho,fun y hy=>?_⟩
  obtain ⟨m,hn,hl⟩:=I.loc
  obtain ⟨u,ru,l⟩:=hl i x y h1 hy (h3.elim (fun z=>.inr (.inl z)) fun z=>.inr (.inr z))
  rcases l with ⟨k,_⟩ | ⟨_,c,e',z⟩
  ·have k : X.env.scope.names.lookup x=some .local:=k
   rcases h3 with h3 | h3 <;> (rw [h3] at k; cases k)
  ·rw [h2] at e'; cases e'
   obtain ⟨o',ho',hd'⟩:=z
   rw [ho] at ho'; cases ho'
   exact ⟨u,hd',ru⟩
 ·cases q : S b with
  | none=>rfl
  | some o =>
   exfalso
   obtain ⟨x,h,_,nf⟩:=cell b o q
   rcases List.mem_cons.mp (I.stkSub b hb) with e | hb'
   ·exact I.cne x b h e
   ·rcases nf with nf | nf
    ·obtain ⟨_,o',e',_⟩:=I.ok.funs.mem hb'
     exact absurd (Nat.lt_of_lt_of_le (Heap.lt_size e') nf) (Nat.lt_irrefl _)
    ·exact nf hb'
end
def Qs (S : Cells) (Q : VK) : VK:=fun v H2=>(∀ b o,S b=some o→H2 b=some (zbk b o))→Q v (hid H2 S)
def Es (S : Cells) (Wx : WX) (σ : St) : XK:=fun cls d H2=>(∀ b o,S b=some o→H2 b=some (zbk b o))→Wx cls d σ (hid H2 S)
def tGo (X : Cx) (T : Tb) (sp : Sp) (Wx : WX) : St→List V→Hp→VK→Prop:=fun σ vs H Q =>
 ∃ J : Nat→Option Addr,(∀ i a,J i=some a→T.cm.a i=some a)∧∀ S,CellsAt J σ H S→sp vs (seen H S) (Qs S Q) (Es S Wx σ)
section
variable {X : Cx} {T : Tb} {Wx : WX} {pins : List (Addr × Obj)} {σ : St} {H : Hp} {s : Shared} {k : Nat} {f C : Addr} {fd : FuncData} {ps ks : List Str} {sp : Sp} {Q : VK} {args : PySem.Args} {us ws : List Value} {vs zs : List V}
theorem Env0.seen {A : Around} {outer : List Env} {S : Cells} (e : Env0 X.prog X.w X.K X.mg X.base A outer s H) (cs : ∀ b o,S b=some o→H b=none) (hS : ∀ b o,S b=some o→s.heap.get? b=some o∧X.base.get? b=none) (hfr : ∀ b∈frs outer,S b=none) :
  Env0 X.prog X.w X.K X.mg X.base A outer s (Fx.seen H S):=by
 refine ⟨e.frames,e.mod,fun b o h=>⟨(e.bs b o h).1,?_⟩,e.bsz,e.funs,fun b hb=>by rw [zai (hfr b hb)]; exact e.frf b hb,seenOk e.hok fun b o h=>⟨(hS b o h).1,cs b o h⟩,e.bare⟩
 cases q : S b with
 | some u =>
  have:=(hS b u q).2
  rw [h] at this; cases this
 | none=>rw [zai q]; exact (e.bs b o h).2
theorem run_core {A : Around} (F : FnOk X.prog X.w X.K X.mg X.base (L2.CX X.prog X.w) k f fd ps sp) (hr : Room k A) (e0 : Env0 X.prog X.w X.K X.mg X.base A X.stack s H) (hb : BindsTo s fd args (ps.zip us)) (tk : Takes X Wx) (cm : CmOk X T) (I : Inv X pins σ H s) (r : Vals vs us) (h : tGo X T sp Wx σ vs H Q) :
  codeAny (model X.prog X.w) A (.call (.ref f) args) (fun r s'=>match r with | .ok (.ret v)=>EP X pins σ Q v s' | .ok _=>False | .error e=>X.xe e s') s:=by
 obtain ⟨J,hJ,h⟩:=h
 obtain ⟨S,cs,hS,hfr⟩:=zoa cm I hJ
 have e1:=Env0.seen e0 cs.no hS hfr
 refine codeAny_mono (F.run A X.stack s (Fx.seen H S) args us vs _ _ hr e1 hb r (h S cs)) fun r s' hq=>?_
 cases r with
 | error e =>
  have c:=CX.unseen (Cb:=fun _=>False) (show L2.CX X.prog X.w X.stack (Fx.seen H S) s (Es S Wx σ) e s' from hq) e1.hok cs.no hfr (fun _ z=>z.elim)
  exact tk e s' (XE.of_call I (fun cls d H' z=>by
   obtain ⟨H2,rfl,k2,_,z⟩:=z
   exact z k2) c)
 | ok fl =>
  cases fl with
  | ret u =>
   have c:=CE.unseen (Cb:=fun _=>False) (show CE X.stack X.prog X.w (Fx.seen H S) s (Qs S Q) u s' from hq) e1.hok cs.no hfr (fun _ z=>z.elim)
   exact I.after (CE.imp c fun v H' z=>by
    obtain ⟨H2,rfl,k2,_,z⟩:=z
    exact z k2)
  | next=>exact False.elim hq
  | brk=>exact False.elim hq
  | cont=>exact False.elim hq
theorem run_call (F : FnOk X.prog X.w X.K X.mg X.base (L2.CX X.prog X.w) k f fd ps sp) (hr : Room k X.A) {kw : List (Str × Value)} {as : List Value} (hb : BindsTo s fd ⟨as,kw⟩ (ps.zip us)) (tk : Takes X Wx) (cm : CmOk X T) (I : Inv X pins σ H s) (r : Vals vs us) (h : tGo X T sp Wx σ vs H Q) :
  wpAny (model X.prog X.w) X.A (PySem.call (.ref f) as kw) (EP X pins σ Q) X.xe s :=
 wpAny_call (run_core F hr I.env0 hb tk cm I r h)
end

structure Bnd (K : PySem.W.Frag) (fd : FuncData) (ps : List Str) (n : Nat) (ks : List Str) (gV : List V→List V) : Prop where
 to : ∀ (s : Shared) (us ws : List Value) (vs zs : List V),K.In s.heap→Vals vs us→Vals zs ws→vs.length=n→zs.length=ks.length→∃ xs,Vals (gV (vs ++ zs)) xs∧BindsTo s fd ⟨us,ks.zip ws⟩ (ps.zip xs)
section
variable {X : Cx} {T : Tb} {Wx : WX} {k n : Nat} {f C : Addr} {fd : FuncData} {ps ks : List Str} {sp : Sp} {x m : Str} {p pos apos : Pos} {e o : Expr} {es : List Expr} {kws : List Keyword} {t tk : TA} {ta : TE} {gV : List V→List V}
def tCallG (X : Cx) (T : Tb) (n m : Nat) (sp : Sp) (Wx : WX) (gV : List V→List V) (t tk : TA) : TE:=fun σ H Q=>t σ H fun vs H1=>tk σ H1 fun zs H2=>vs.length=n∧zs.length=m∧tGo X T sp Wx σ (gV (vs ++ zs)) H2 Q
theorem pe_callG (F : FnOk X.prog X.w X.K X.mg X.base (L2.CX X.prog X.w) k f fd ps sp) (hr : Room k X.A) (hg : Gl X x) (hm : X.mg x=some (.ref f)) (hk : PySem.W.keepIn X.K (.ref f)=true) (hb : Bnd X.K fd ps n [] gV) (tk' : Takes X Wx) (cm : CmOk X T)
  (ha : PA X (e :: es) t) (hdb : (x == ("__debug__" : Str))=false:=by decide) (he : starEach (e :: es) X.env=(false,eval e X.env) :: starEach es X.env:=by rfl) (hpl : (PySem.backTo pos (starEach es X.env)).any (·.1)=false:=by rfl) :
  PE X (.Call (.Name x p) (e :: es) [] pos) (tCallG X T n 0 sp Wx gV t tNil):=by
 refine ⟨fun pins s σ H Q I h=>?_⟩
 refine wpAny_Call_Name_kw (ld_glob I hg hm ?_ hdb)
 refine PySem.W.callWith_K (h₀:=X.base) I.ok.mod.kin hk (thn (ha.run pos pins s σ H _ I h) fun us s1 ⟨vs,H1,I1,r,l1,l2,q⟩=>⟨I1.kIn,?_⟩) he hpl
 obtain ⟨xs,rx,bx⟩:=hb.to s1 us [] vs [] I1.kIn r .nil l1 rfl
 exact run_call F hr bx tk' cm I1 rx q
end
end Fx
end
section
set_option maxHeartbeats 4000000
namespace Fx
open PySem PySem.Spec PyProof.Rows L2
def zcF (G : Glb) (ExR : Wd→Hp→Nat→Option Val→Value→Option Addr→Prop) (C : Callee) (tp : Wd→Tgt→Prop) (fresh : Bool) (lent : List Nat) : Sp:=fun vs H Q E=>∃ W ss h t,tp W t ∧
 HpR G W H [] [] h∧ArgsR G W H ss vs∧(∀ p j,W.own p=some (.slot j)→j∈lent)∧(∀ p j,W.own p≠some (.sub j)) ∧
 match C t ss h with
 | .ok v outs h'=>∀ W' x H',Evo W H W' H'→HpR G W' H' [] [] h'→OutR G W' H' lent outs vs→ResR G fresh H W' H' v x→Q x H'
 | .exn c e outs h'=>∀ W' cls d H',Evo W H W' H'→HpR G W' H' [] [] h'→OutR G W' H' lent outs vs→ExR W' H' c e cls d→E cls d H'
 | .stuck=>False
def isFn (g : Nat) : Wd→Tgt→Prop:=fun _ t=>t = .fn g
def ExOk (T : Tb) : Prop:=∀ W W' H H' c e cls d,Wlo W W'→T.ExR W H c e cls d→T.ExR W' H' c e cls d
section
variable {X : Cx} {T : Tb} {Wx : WX} {W W' W2 Ws W1 : Wd} {H H' H2 Hs H1 : Hp} {σ : St} {fr fr1 : Fr} {h h2 h1 : MH} {p q : Addr} {r : zaB} {as as' : List AV} {ss outs : List Slot} {vs xs : List V} {S : Cells} {lent : List Nat} {TT : Tbl} {C : Callee} {f f2 fresh : Bool} {e a b c o : Expr} {es : List Expr} {pos pos' apos : Pos}

theorem zd5.evo {v : Val} {x : V} (ev : Evo W H W' H') (r : zd5 (gl X T) Hs W H v x) : zd5 (gl X T) Hs W' H' v x:=by
 obtain ⟨p,e,h0,z,n,cu⟩:=r
 obtain ⟨o,ho⟩:=Cur.at _ cu
 obtain ⟨a,b⟩:=ev.stay p o ho z n
 exact ⟨p,e,h0,ev.thaw p o ho z n,b,zd8 ev.le (by rw [a,ho]) cu⟩
theorem AvR.evo {a : AV} {x : V} (ev : Evo W H W' H') (r : AvR X T σ Hs W H a x) : AvR X T σ Hs W' H' a x:=by
 cases a with
 | v v=>exact Rp.le ev.le r
 | p i=>exact r
 | f v=>exact ⟨r.1,r.2.evo ev⟩
theorem AvR.dom {a : AV} {x : V} (d : ∀ p,H1 p=none→Hs p=none) (r : AvR X T σ H1 W H a x) : AvR X T σ Hs W H a x:=by
 cases a with
 | f v =>
  obtain ⟨l,p,e,h0,k⟩:=r
  exact ⟨l,p,e,d p h0,k⟩
 | _=>exact r
theorem AvsR.nil : AvsR X T σ Hs W H [] []:=⟨rfl,fun j a x e=>by simp at e,fun j k v w x e=>by simp at e⟩
theorem AvsR.cons {a : AV} {x : V} (d : ∀ p,H1 p=none→Hs p=none) (ha : AvR X T σ Hs W H a x) (hx : ∀ v p,a = .f v→x = .ref p→H1 p≠none) (r : AvsR X T σ H1 W H as xs) : AvsR X T σ Hs W H (a :: as) (x :: xs):=by
 have apart : ∀ (k : Nat) v w,a = .f v→as[k]? = some (.f w)→xs[k]? = some x→False:=fun k v w e1 e2 e3=>by
  obtain ⟨_,p,e,h0,_⟩:=r.at_ k _ _ e2 e3
  exact hx v p e1 e h0
 refine ⟨by simp [r.len],fun j b y e1 e2=>?_,fun j k v w y e1 e2 e3 e4=>?_⟩
 ·cases j with
  | zero=>simp at e1 e2; subst e1; subst e2; exact ha
  | succ j=>exact AvR.dom d (r.at_ j b y (by simpa using e1) (by simpa using e2))
 ·cases j with
  | zero =>
   cases k with
   | zero=>rfl
   | succ k =>
    simp at e1 e3
    subst e3
    exact (apart k v w e1 (by simpa using e2) (by simpa using e4)).elim
  | succ j =>
   cases k with
   | zero =>
    simp at e2 e4
    subst e4
    exact (apart j w v e2 (by simpa using e1) (by simpa using e3)).elim
   | succ k=>rw [r.dis j k v w y (by simpa using e1) (by simpa using e2) (by simpa using e3) (by simpa using e4)]
def tAvs (X : Cx) (T : Tb) (Wx : WX) (m : Fr→MH→Res (List AV)) : TA:=fun σ H Q =>
 ∃ W fr h,RX X T W H fr σ h∧AfX X T Wx σ (fun W' H' as xs=>AvsR X T σ H W' H' as xs) W H (m fr h) Q
abbrev SAs (X : Cx) (T : Tb) (Wx : WX) (TT : Tbl) (C : Callee) (es : List Expr) (x : Args) : Prop:=PA X es (tAvs X T Wx (eva TT C x))
theorem zdj : SAs X T Wx TT C [] .nil:=by
 refine PA.wk pa_nil fun σ H Q q=>?_
 obtain ⟨W,fr,h,r,a⟩:=q
 simp only [eva,rt] at a
 exact a W [] H (Evo.refl _ _) r .nil
theorem zhE {x : Exp} {r : Args} (ha : SE X T Wx TT C f a x) (hr : SAs X T Wx TT C es r) (hs : starEach (a :: es) X.env=(false,eval a X.env) :: starEach es X.env:=by rfl) : SAs X T Wx TT C (a :: es) (.e x r):=by
 refine PA.wk (pa_cons (PE.un ha) hr hs) fun σ H Q q=>?_
 simp only [eva] at q
 obtain ⟨W,fr,h,r0,a⟩:=q
 refine ⟨W,fr,h,r0,bndE a fun y H1 W1 v fr1 h1 ev1 r1 rr a=>⟨W1,fr1,h1,r1,bndE a fun ys H2 W2 vs fr2 h2 ev2 r2 rrs a=>?_⟩⟩
 exact a W2 (y :: ys) H2 (Evo.refl _ _) r2 (.cons ev1.dom (Rp.le ev2.le rr) (fun v p z=>by cases z) rrs)
theorem sas_p {i : Nat} {x : Str} {r : Args} (hN : X.N[i]? = some x) (hv : Vis X.env.scope x) (hd : (x == ("__debug__" : Str))=false) (hcd : (x == ("__classdict__" : Str))=false) (hr : SAs X T Wx TT C es r)
  (hs : starEach (.Name x pos :: es) X.env=(false,eval (.Name x pos) X.env) :: starEach es X.env:=by rfl) : SAs X T Wx TT C (.Name x pos :: es) (.p i r):=by
 refine PA.wk (pa_cons (pe_var hN hv hd hcd) hr hs) fun σ H Q q=>?_
 simp only [eva] at q
 obtain ⟨W,fr,h,r0,a⟩:=q
 have key : (∃ y,σ[i]? = some (some y))∧AfX X T Wx σ (fun W' H' as xs=>AvsR X T σ H W' H' as xs) W H (bnd (eva TT C r) (fun vs=>rt (AV.p i :: vs)) fr h) Q:=by
  cases e : fr[i]? with
  | none=>simp only [bnd,e] at a; exact a.elim
  | some s =>
   cases s with
   | val v =>
    simp only [bnd,e] at a
    obtain ⟨y,hy,_⟩:=r0.f.at_ i _ e
    exact ⟨⟨y,hy⟩,by unfold bnd; exact a⟩
   | own v =>
    simp only [bnd,e] at a
    obtain ⟨p,hy,_⟩:=r0.f.at_ i _ e
    exact ⟨⟨_,hy⟩,by unfold bnd; exact a⟩
   | _=>simp only [bnd,e] at a; exact a.elim
 obtain ⟨⟨y,hy⟩,a⟩:=key
 refine ⟨y,hy,W,fr,h,r0,bndE a fun ys H2 W2 vs fr2 h2 ev2 r2 rrs a=>?_⟩
 exact a W2 (y :: ys) H2 (Evo.refl _ _) r2 (.cons (fun _ z=>z) hy (fun v p z=>by cases z) rrs)
def Args.len : Args→Nat
 | .nil=>0
 | .e _ r=>r.len + 1
 | .p _ r=>r.len + 1
 | .f _ r=>r.len + 1
theorem zit : ∀ (xs : Args) {fr fr1 : Fr} {h h1 : MH} {us : List AV},eva TT C xs fr h = .ok us fr1 h1→us.length=xs.len
 | .nil,fr,fr1,h,h1,us,e=>by simp only [eva,rt] at e; cases e; rfl
 | .e x r,fr,fr1,h,h1,us,e=>by
  simp only [eva] at e
  cases q : ev TT C x fr h with
  | ok v fr2 h2 =>
   simp only [bnd,q] at e
   cases q2 : eva TT C r fr2 h2 with
   | ok vs fr3 h3=>simp only [q2,rt] at e; cases e; rw [List.length_cons,zit r q2]; rfl
   | _=>simp only [q2] at e; cases e
  | _=>simp only [bnd,q] at e; cases e
 | .f x r,fr,fr1,h,h1,us,e=>by
  simp only [eva] at e
  cases q : ev TT C x fr h with
  | ok v fr2 h2 =>
   cases hl : isLD v with
   | false=>simp only [bnd,q,ldR,hl] at e; cases e
   | true =>
   simp only [bnd,q,ldR,hl,if_true] at e
   cases q2 : eva TT C r fr2 h2 with
   | ok vs fr3 h3=>simp only [q2,rt] at e; cases e; rw [List.length_cons,zit r q2]; rfl
   | _=>simp only [q2] at e; cases e
  | _=>simp only [bnd,q] at e; cases e
 | .p i r,fr,fr1,h,h1,us,e=>by
  simp only [eva] at e
  have go : ∀ fr2 h2,bnd (eva TT C r) (fun vs=>rt (AV.p i :: vs)) fr2 h2 = .ok us fr1 h1→us.length=r.len + 1:=fun fr2 h2 e=>by
   cases q2 : eva TT C r fr2 h2 with
   | ok vs fr3 h3=>simp only [bnd,q2,rt] at e; cases e; rw [List.length_cons,zit r q2]
   | _=>simp only [bnd,q2] at e; cases e
  cases q : fr[i]? with
  | none=>simp only [bnd,q] at e; cases e
  | some s =>
   cases s with
   | val v=>unfold bnd at e; simp only [q] at e; exact go _ _ e
   | own v=>unfold bnd at e; simp only [q] at e; exact go _ _ e
   | _=>simp only [bnd,q] at e; cases e
def cellJ (T : Tb) (fr : Fr) : Nat→Option Addr:=fun i=>match fr[i]? with
 | some (.cell _)=>T.cm.a i
 | _=>none
theorem zmZ {i : Nat} {a : Addr} (e : cellJ T fr i=some a) : T.cm.a i=some a∧∃ c,fr[i]? = some (.cell c):=by
 unfold cellJ at e
 cases q : fr[i]? with
 | none=>rw [q] at e; cases e
 | some s =>
  rw [q] at e
  cases s with
  | cell c=>exact ⟨e,c,rfl⟩
  | _=>cases e
theorem cellJ_of {i c : Nat} (e : fr[i]? = some (.cell c)) : cellJ T fr i=T.cm.a i:=by unfold cellJ; rw [e]
theorem zpu : ∀ {as : List AV} {j0 : Nat},zhd lent j0 as=true→∀ (j : Nat) a,as[j]? = some a→(∀ v,a≠.v v)→j0 + j∈lent
 | [],_,_,j,a,h,_=>by simp at h
 | b :: as,j0,e,j,a,h,hn=>by
  have e2 : zhd lent (j0 + 1) as=true:=by
   cases b with
   | v x=>exact e
   | p x=>exact (Bool.and_eq_true_iff.mp e).2
   | f x=>exact (Bool.and_eq_true_iff.mp e).2
  cases j with
  | zero =>
   simp at h
   subst h
   cases b with
   | v x=>exact absurd rfl (hn x)
   | p x=>have:=(Bool.and_eq_true_iff.mp e).1; simpa using this
   | f x=>have:=(Bool.and_eq_true_iff.mp e).1; simpa using this
  | succ j =>
   have:=zpu e2 j a (by simpa using h) hn
   have e3 : j0 + 1 + j=j0 + (j + 1):=by omega
   rw [e3] at this
   exact this
theorem resR_back (rx : RX X T W H fr σ h) (d : ∀ p,H p=none→Hs p=none) (cs : zeU W H fr σ S) {v : Val} {x : V} (r : ResR (gl X T) fresh (seen H S) W2 H2 v x) : ResR (gl X T) fresh Hs (W2.back W) (hid H2 S) v x:=by
 have go : ∀ v,zd5 (gl X T) (seen H S) W2 H2 v x→zd5 (gl X T) Hs (W2.back W) (hid H2 S) v x:=fun v r=>by
  obtain ⟨p,e,h0,z,n,cu⟩:=r
  have s0 : S p=none:=by
   cases q : S p with
   | none=>rfl
   | some o=>rw [zc2 q] at h0; cases h0
  rw [zai s0] at h0
  have w0 : W.own p=none:=by
   cases q : W.own p with
   | none=>rfl
   | some r=>exact absurd h0 (rx.h.oin p r q)
  refine ⟨p,e,d p h0,z,?_,zd8 zeK (zau s0) cu⟩
  rw [zfo (by rw [w0]; exact fun _=>nofun) (by rw [w0]; exact fun _=>nofun),n]
  rfl
 cases fresh with
 | false=>exact Rp.le zeK r
 | true =>
  cases v with
  | lst l=>exact go _ r
  | dct l=>exact go _ r
  | _=>exact Rp.le zeK r
theorem AfX.weak {α β : Type} {Rel Rel' : Wd→Hp→α→β→Prop} {r : Res α} {Q : β→Hp→Prop} (a : AfX X T Wx σ Rel W H r Q) (k : ∀ W' H' v x,Rel' W' H' v x→Rel W' H' v x) : AfX X T Wx σ Rel' W H r Q:=by
 cases r with
 | ok v fr' h'=>exact fun W' x H' ev r' rr=>a W' x H' ev r' (k _ _ _ _ rr)
 | exn c y fr' h'=>exact a
 | stuck=>exact a
theorem go_of {t : Tgt} {tp : Wd→Tgt→Prop} (ok : ExOk T) (htp : ∀ W' : Wd,W'.κ=W.κ→W'.ct=W.ct→tp W' t) (rx : RX X T W H fr σ h) (evs : Evo Ws Hs W H) (av : AvsR X T σ Hs W H as vs) {Q : VK} (a : AfX X T Wx σ (fun W' H' v x=>Wle W W'∧ResR (gl X T) fresh Hs W' H' v x) Ws Hs (zhq C t lent as fr h) Q) :
  tGo X T (zcF (gl X T) T.ExR C tp fresh lent) Wx σ vs H Q:=by
 unfold zhq at a
 by_cases hnd : (zex as && zhd lent 0 as)=true
 ·rw [if_pos hnd] at a
  rw [Bool.and_eq_true_iff] at hnd
  obtain ⟨hnd,hlo⟩:=hnd
  cases hss : zap as fr with
  | none=>simp only [hss] at a; exact a.elim
  | some ss =>
   simp only [hss] at a
   refine ⟨cellJ T fr,fun i a e=>(zmZ e).1,fun S cs0=>?_⟩
   ·have cellA : ∀ (i c : Nat),fr[i]? = some (Slot.cell c)→∃ a,T.cm.a i=some a∧W.κ[c]? = some a:=fun i c e=>by
     have : T.cm.c i=some c:=rx.f.at_ i _ e
     exact rx.k i c this
    have cs : zeU W H fr σ S:=by
     refine ⟨cs0.no,fun i c a e1 e2=>?_,fun b o e=>?_⟩
     ·obtain ⟨a',h1,h2⟩:=cellA i c e1
      rw [e2] at h2; cases h2
      exact cs0.all i a (by rw [cellJ_of e1]; exact h1)
     ·obtain ⟨i,hi⟩:=cs0.of b o e
      obtain ⟨hi,c,q⟩:=zmZ hi
      obtain ⟨a',h1,h2⟩:=cellA i c q
      rw [hi] at h1; cases h1
      exact ⟨i,c,q,h2⟩
    obtain ⟨hr,ar⟩:=call_in rx av hnd hss cs
    have hl : ∀ (j : Nat) a,as[j]? = some a→(∀ v,a≠.v v)→j∈lent:=fun j a e n=>by
     have:=zpu hlo j a e n
     simpa using this
    refine ⟨W.into ss vs,ss,h,t,htp _ rfl rfl,hr,ar,fun p j e=>?_,fun p j e=>into_sub e,?_⟩
    ·obtain ⟨v,h1,h2⟩:=zbx (into_slot e)
     rcases (zdQ rx av hss h1 h2).2.2 with ⟨i,z,_⟩ | ⟨z,_⟩
     ·exact hl j _ z (fun _=>nofun)
     ·exact hl j _ z (fun _=>nofun)
    ·have hlp : ∀ (j i : Nat),as[j]? = some (AV.p i)→j∈lent:=fun j i e=>hl j _ e (fun _=>nofun)
     cases q : C t ss h with
     | stuck=>simp only [q] at a; exact a.elim
     | ok v outs h' =>
      simp only [q] at a
      by_cases ob : zbV as ss outs=true
      ·rw [if_pos ob] at a
       intro W' x H' ev hr' out rr k2
       exact a (W'.back W) x (hid H' S) (call_evo rx evs av hss cs ev) (zpX rx av hnd hss cs hlp ev hr' k2 out ob) ⟨(zkX.trans ev.le).trans zeK,resR_back rx evs.dom cs rr⟩
      ·rw [if_neg ob] at a; exact a.elim
     | exn c e outs h' =>
      simp only [q] at a
      by_cases ob : zbV as ss outs=true
      ·rw [if_pos ob] at a
       intro W' cls d H' ev hr' out ex k2
       exact a (W'.back W) cls d (hid H' S) (call_evo rx evs av hss cs ev) (zpX rx av hnd hss cs hlp ev hr' k2 out ob) (ok _ _ _ _ _ _ _ _ zeK.lo ex)
      ·rw [if_neg ob] at a; exact a.elim
 ·rw [if_neg hnd] at a; exact a.elim
variable {k n : Nat} {fd : FuncData} {ps : List Str} {x m : Str} {p : Pos} {g : Nat} {fA : Addr}
theorem zew {xs : Args} (ok : ExOk T) (cm : CmOk X T) (tk : Takes X Wx) (F : FnOk X.prog X.w X.K X.mg X.base (L2.CX X.prog X.w) k fA fd ps (zcF (gl X T) T.ExR C (isFn g) fresh (TT.lent g))) (hr : Room k X.A) (hg : Gl X x) (hm : X.mg x=some (.ref fA)) (hk : PySem.W.keepIn X.K (.ref fA)=true)
  (hn : xs.len=n) (hb : Bnd X.K fd ps n [] id) (ha : SAs X T Wx TT C (e :: es) xs) (hdb : (x == ("__debug__" : Str))=false:=by decide) (he : starEach (e :: es) X.env=(false,eval e X.env) :: starEach es X.env:=by rfl) (hpl : (PySem.backTo pos (starEach es X.env)).any (·.1)=false:=by rfl) :
  SE X T Wx TT C fresh (.Call (.Name x p) (e :: es) [] pos) (.call g xs):=by
 refine PE.wk (pe_callG F hr hg hm hk hb tk cm ha hdb he hpl) fun σ H Q q=>?_
 simp only [ev] at q
 obtain ⟨W,fr,h,r0,a⟩:=q
 refine ⟨W,fr,h,r0,?_⟩
 cases q1 : eva TT C xs fr h with
 | stuck=>simp only [bnd,q1] at a; exact a.elim
 | exn c y fr1 h1=>simp only [bnd,q1] at a; exact a
 | ok us fr1 h1 =>
  simp only [bnd,q1,callC] at a
  intro W1 vs H1 ev1 r1 av
  have go:=go_of (tp:=isFn g) ok (fun _ _ _=>rfl) r1 ev1 av (AfX.weak a fun _ _ _ _ z=>z.2)
  have hl : vs.length=n:=by rw [← av.len,zit xs q1,hn]
  exact ⟨hl,rfl,by rw [List.append_nil]; exact go⟩
end
end Fx
end
section
set_option maxHeartbeats 4000000
namespace Fx
open PySem PySem.Spec PyProof.Rows L2
def Exps.len : Exps→Nat
 | .nil=>0
 | .cons _ r=>r.len + 1
def TBw (tb : Addr→Option (Nat→Nat→Str)) (W : Wd) (p : Addr) : Prop:=(∃ nm,tb p=some nm)∨∃ k q,W.ct k=some (p,q)
open Classical in
noncomputable def Wd.froz (W : Wd) (tb : Addr→Option (Nat→Nat→Str)) (H : Hp) (h : MH) : Wd where
 Z:=fun p=>if ∃ (a : Nat) (l : List Val),W.ι[a]? = some p∧h.objs[a]? = some (.hl l) then H p else W.Z p
 F:=W.F
 dd:=fun _=>False
 ι:=[]
 κ:=[]
 own:=fun p=>if TBw tb W p then W.own p else none
 asn:=fun _ _=>False
 ct:=W.ct
def zjR : Option zaB→Option zaB
 | some .tab=>some .tab
 | _=>none
theorem ziG {o : Option zaB} {r : zaB} (e : zjR o=some r) : r = .tab∧o=some .tab:=by
 cases o with
 | none=>cases e
 | some o=>cases o <;> first | (cases e; exact ⟨rfl,rfl⟩) | cases e
def Wd.plus (W : Wd) (H : Hp) (W' : Wd) : Wd where
 dd:=W.dd
 Z:=fun p=>match H p with
  | none=>W'.Z p
  | some _=>W.Z p
 F:=fun p=>match H p with
  | none=>W'.F p
  | some _=>W.F p
 ι:=W.ι
 κ:=W.κ
 own:=fun p=>match H p with
  | none=>zjR (W'.own p)
  | some _=>W.own p
 asn:=W.asn
 ct:=W'.ct
section
open Classical
variable {X : Cx} {T : Tb} {Wx : WX} {W W' W2 Ws W1 : Wd} {H H' H2 Hs H1 : Hp} {σ : St} {fr fr1 : Fr} {h h2 h1 : MH} {p q : Addr} {r : zaB} {ss outs : List Slot} {vs xs : List V} {S : Cells} {lent : List Nat} {TT : Tbl} {C : Callee} {f f2 fresh : Bool} {e a b c o : Expr} {es : List Expr} {pos pos' apos : Pos}
theorem tab_own (r : HpR (gl X T) W H fr σ h) {nm : Nat→Nat→Str} (e : T.tab p=some nm) : W.own p=some .tab:=(r.x.tab p nm e).1
abbrev TB (T : Tb) (W : Wd) (p : Addr) : Prop:=TBw T.tab W p
theorem tb_own (r : HpR (gl X T) W H fr σ h) (e : TB T W p) : W.own p=some .tab:=by
 rcases e with ⟨nm,e⟩ | ⟨k,q,e⟩
 ·exact tab_own r e
 ·exact (r.x.ct k p q e).ow
theorem tb_H (r : HpR (gl X T) W H fr σ h) (e : TB T W p) : ∃ ps,H p=some (.tbl ps):=by
 rcases e with ⟨nm,e⟩ | ⟨k,q,e⟩
 ·obtain ⟨_,ps,h1,_⟩:=r.x.tab p nm e
  exact ⟨ps,h1⟩
 ·obtain ⟨ps,h1,_⟩:=(r.x.ct k p q e).tb
  exact ⟨ps,h1⟩
theorem zhl (r : HpR (gl X T) W H fr σ h) {o : zaB} (e : (W.froz T.tab H h).own p=some o) : o = .tab∧W.own p=some .tab:=by
 by_cases q : TB T W p
 ·have:=tb_own r q
  have e : (if TB T W p then W.own p else none)=some o:=e
  rw [if_pos q,this] at e; cases e
  exact ⟨rfl,this⟩
 ·have e : (if TB T W p then W.own p else none)=some o:=e
  rw [if_neg q] at e; cases e
theorem zc3 (n : ¬ TB T W p) : (W.froz T.tab H h).own p=none:=if_neg n
theorem zl6 (r : HpR (gl X T) W H fr σ h) (n : TB T W p) : (W.froz T.tab H h).own p=some .tab:=(if_pos n).trans (tb_own r n)
theorem zjx (r : HpR (gl X T) W H fr σ h) (n : W.own p≠some .tab) : ¬ TB T W p:=fun q=>n (tb_own r q)
theorem zl7 {a : Nat} {l : List Val} (n : W.ι[a]? = some p) (e : h.objs[a]? = some (.hl l)) : (W.froz T.tab H h).Z p=H p:=if_pos ⟨a,l,n,e⟩
theorem froz_Zno (n : ∀ (a : Nat) (l : List Val),W.ι[a]? = some p→h.objs[a]?≠some (.hl l)) : (W.froz T.tab H h).Z p=W.Z p:=if_neg fun ⟨a,l,e1,e2⟩=>n a l e1 e2
theorem zl0 (r : HpR (gl X T) W H fr σ h) {a : Nat} {l : List Val} (n : W.ι[a]? = some p) (e : h.objs[a]? = some (.hl l)) : W.own p=some (.obj a)∧∃ vs,H p=some (.lst vs)∧Rps (gl X T) W l vs:=by
 obtain ⟨p',h1,h2,h3⟩:=r.objs a _ e
 rw [n] at h1; cases h1
 exact ⟨h2,h3⟩
theorem zfj (r : HpR (gl X T) W H fr σ h) (z : W.own p=none) : (W.froz T.tab H h).Z p=W.Z p:=froz_Zno fun a l e1 e2=>by
 have:=(zl0 r e1 e2).1
 rw [z] at this; cases this
theorem zrj {o : HO} (z : (W.froz T.tab H h).Z p=some o) : W.Z p=some o∨∃ (a : Nat) (l : List Val),W.ι[a]? = some p∧h.objs[a]? = some (.hl l)∧H p=some o:=by
 by_cases e : ∃ (a : Nat) (l : List Val),W.ι[a]? = some p∧h.objs[a]? = some (.hl l)
 ·have z : (if ∃ (a : Nat) (l : List Val),W.ι[a]? = some p∧h.objs[a]? = some (.hl l) then H p else W.Z p)=some o:=z
  rw [if_pos e] at z
  obtain ⟨a,l,e1,e2⟩:=e
  exact .inr ⟨a,l,e1,e2,z⟩
 ·have z : (if ∃ (a : Nat) (l : List Val),W.ι[a]? = some p∧h.objs[a]? = some (.hl l) then H p else W.Z p)=some o:=z
  rw [if_neg e] at z
  exact .inl z
theorem zcZ (r : HpR (gl X T) W H fr σ h) {o : HO} (z : W.Z p=some o) : W.own p=none:=(r.zin p o z).no
mutual
theorem pv_rp (r : HpR (gl X T) W H fr σ h) : ∀ {v : Val} {x : V},Rp (gl X T) W v x→isPv v=true→Rp (gl X T) (W.froz T.tab H h) v x
 | _,_,.none,_=>.none
 | _,_,.bool b,_=>.bool b
 | _,_,.int i,_=>.int i
 | _,_,.str s,_=>.str s
 | _,_,.tup t rs k,e=>.tup (SqT.le (fun p o z=>(zfj r (zcZ r z)).trans z) t) (zoV r rs e) k
 | _,_,.lst t rs,e=>.lst (SqL.le (fun p o z=>(zfj r (zcZ r z)).trans z) t) (zoV r rs e)
 | _,_,.dct _ _,e=>nomatch e
 | _,_,.ref _,e=>nomatch e
 | _,_,.fn _,e=>nomatch e
 | _,_,.clo _ _ _ _,e=>nomatch e
 | _,_,.exc0 _ _,e=>nomatch e
 | _,_,.exc1 _ _ _ _,e=>nomatch e
theorem zoV (r : HpR (gl X T) W H fr σ h) : ∀ {l : List Val} {xs : List V},Rps (gl X T) W l xs→zg1 l=true→Rps (gl X T) (W.froz T.tab H h) l xs
 | _,_,.nil,_=>.nil
 | _,_,.cons a b,e=>.cons (pv_rp r a (Bool.and_eq_true_iff.mp e).1) (zoV r b (Bool.and_eq_true_iff.mp e).2)
end
theorem dd1_ref {a : Nat} {w : Val} (e : dd1 h (.ref a)=some w) : ∃ l,h.objs[a]? = some (.hl l)∧zg1 l=true∧w = .lst l:=by
 have e : (match h.objs[a]? with | some (.hl l)=>if zg1 l then some (.lst l) else none | _=>none)=some w:=e
 cases q : h.objs[a]? with
 | none=>rw [q] at e; cases e
 | some ob =>
  rw [q] at e
  cases ob with
  | hl l =>
   dsimp only at e
   by_cases pl : zg1 l=true
   ·rw [if_pos pl] at e; cases e
    exact ⟨l,rfl,pl,rfl⟩
   ·rw [if_neg pl] at e; cases e
  | _=>cases e
theorem map_some {α β : Type} {o : Option α} {g : α→β} {w : β} (e : o.map g=some w) : ∃ m,o=some m∧w=g m:=by
 cases o with
 | none=>cases e
 | some m=>cases e; exact ⟨m,rfl,rfl⟩
theorem ddl1_cons {v : Val} {l m : List Val} (e : ddL1 h (v :: l)=some m) : ∃ w ws,dd1 h v=some w∧ddL1 h l=some ws∧m=w :: ws:=by
 have e : (dd1 h v).bind (fun w=>(ddL1 h l).map (w :: ·))=some m:=e
 cases q : dd1 h v with
 | none=>rw [q] at e; cases e
 | some w =>
  cases q2 : ddL1 h l with
  | none=>rw [q,q2] at e; cases e
  | some ws=>rw [q,q2] at e; cases e; exact ⟨w,ws,rfl,rfl,rfl⟩
mutual
theorem dd1_rp (r : HpR (gl X T) W H fr σ h) : ∀ {v : Val} {x : V},Rp (gl X T) W v x→∀ w,dd1 h v=some w→Rp (gl X T) (W.froz T.tab H h) w x
 | _,_,.none,_,e=>by cases e; exact .none
 | _,_,.bool b,_,e=>by cases e; exact .bool b
 | _,_,.int i,_,e=>by cases e; exact .int i
 | _,_,.str s,_,e=>by cases e; exact .str s
 | _,_,.tup t rs k,_,e=>let ⟨m,q,z⟩:=map_some e; z ▸ .tup (SqT.le (fun p o z=>(zfj r (zcZ r z)).trans z) t) (zo8 r rs m q) k
 | _,_,.lst t rs,_,e=>let ⟨m,q,z⟩:=map_some e; z ▸ .lst (SqL.le (fun p o z=>(zfj r (zcZ r z)).trans z) t) (zo8 r rs m q)
 | _,_,.ref hi,_,e=>by
  obtain ⟨l,q,pl,rfl⟩:=dd1_ref e
  obtain ⟨h2,vs,k1,k2⟩:=zl0 r hi q
  exact .lst (.inl (.inl ((zl7 hi q).trans k1))) (zoV r k2 pl)
 | _,_,.fn _,_,e=>by cases e
 | _,_,.clo _ _ _ _,_,e=>by cases e
 | _,_,.exc0 _ _,_,e=>by cases e
 | _,_,.exc1 _ _ _ _,_,e=>by cases e
 | _,_,.dct _ _,_,e=>by cases e
theorem zo8 (r : HpR (gl X T) W H fr σ h) : ∀ {l : List Val} {xs : List V},Rps (gl X T) W l xs→∀ m,ddL1 h l=some m→Rps (gl X T) (W.froz T.tab H h) m xs
 | _,_,.nil,_,e=>by cases e; exact .nil
 | _,_,.cons a b,_,e=>let ⟨w,ws,q1,q2,z⟩:=ddl1_cons e; z ▸ .cons (dd1_rp r a w q1) (zo8 r b ws q2)
end
theorem dd_ref {a : Nat} {w : Val} (e : dd h (.ref a)=some w) : ∃ l,h.objs[a]? = some (.hl l)∧((zg1 l=true∧w = .lst l)∨∃ m,ddL1 h l=some m∧w = .lst m):=by
 have e : (match h.objs[a]? with | some (.hl l)=>if zg1 l then some (.lst l) else (ddL1 h l).map .lst | _=>none)=some w:=e
 cases q : h.objs[a]? with
 | none=>rw [q] at e; cases e
 | some ob =>
  rw [q] at e
  cases ob with
  | hl l =>
   dsimp only at e
   by_cases pl : zg1 l=true
   ·rw [if_pos pl] at e; cases e
    exact ⟨l,rfl,.inl ⟨pl,rfl⟩⟩
   ·rw [if_neg pl] at e
    obtain ⟨m,q1,q2⟩:=map_some e
    exact ⟨l,rfl,.inr ⟨m,q1,q2⟩⟩
  | _=>cases e
theorem ddl_cons {v : Val} {l m : List Val} (e : ddL h (v :: l)=some m) : ∃ w ws,dd h v=some w∧ddL h l=some ws∧m=w :: ws:=by
 have e : (dd h v).bind (fun w=>(ddL h l).map (w :: ·))=some m:=e
 cases q : dd h v with
 | none=>rw [q] at e; cases e
 | some w =>
  cases q2 : ddL h l with
  | none=>rw [q,q2] at e; cases e
  | some ws=>rw [q,q2] at e; cases e; exact ⟨w,ws,rfl,rfl,rfl⟩
mutual
theorem dd_rp (r : HpR (gl X T) W H fr σ h) : ∀ {v : Val} {x : V},Rp (gl X T) W v x→∀ w,dd h v=some w→Rp (gl X T) (W.froz T.tab H h) w x
 | _,_,.none,_,e=>by cases e; exact .none
 | _,_,.bool b,_,e=>by cases e; exact .bool b
 | _,_,.int i,_,e=>by cases e; exact .int i
 | _,_,.str s,_,e=>by cases e; exact .str s
 | _,_,.tup t rs k,_,e=>let ⟨m,q,z⟩:=map_some e; z ▸ .tup (SqT.le (fun p o z=>(zfj r (zcZ r z)).trans z) t) (dds_rp r rs m q) k
 | _,_,.lst t rs,_,e=>let ⟨m,q,z⟩:=map_some e; z ▸ .lst (SqL.le (fun p o z=>(zfj r (zcZ r z)).trans z) t) (dds_rp r rs m q)
 | _,_,.ref hi,_,e=>by
  obtain ⟨l,q,pl⟩:=dd_ref e
  obtain ⟨h2,vs,k1,k2⟩:=zl0 r hi q
  rcases pl with ⟨pl,rfl⟩ | ⟨m,q1,rfl⟩
  ·exact .lst (.inl (.inl ((zl7 hi q).trans k1))) (zoV r k2 pl)
  ·exact .lst (.inl (.inl ((zl7 hi q).trans k1))) (zo8 r k2 m q1)
 | _,_,.fn _,_,e=>by cases e
 | _,_,.clo _ _ _ _,_,e=>by cases e
 | _,_,.exc0 _ _,_,e=>by cases e
 | _,_,.exc1 _ _ _ _,_,e=>by cases e
 | _,_,.dct _ _,_,e=>by cases e
theorem dds_rp (r : HpR (gl X T) W H fr σ h) : ∀ {l : List Val} {xs : List V},Rps (gl X T) W l xs→∀ m,ddL h l=some m→Rps (gl X T) (W.froz T.tab H h) m xs
 | _,_,.nil,_,e=>by cases e; exact .nil
 | _,_,.cons a b,_,e=>let ⟨w,ws,q1,q2,z⟩:=ddl_cons e; z ▸ .cons (dd_rp r a w q1) (dds_rp r b ws q2)
end
theorem froz_in (r : HpR (gl X T) W H fr σ h) : HpR (gl X T) (W.froz T.tab H h) H [] [] ⟨[],[]⟩:=by
 refine ⟨fun p o z=>?_,fun p od z=>?_,fun p r' z=>r.oin p _ (zhl r z).2,fun p q a f z _=>(nomatch (zhl r z).1),fun q a f z=>(nomatch (zhl r z).1),fun a f=>⟨fun z=>z.elim,fun z=>by cases z⟩,rfl,⟨rfl,fun _ _ _=>id⟩,fun a o z=>by simp at z,fun c v z=>by simp at z,fun P nm e=>?_,fun c d a _ _ z=>by simp [Wd.froz] at z,fun c a _ z=>by simp [Wd.froz] at z,fun k P q e=>?_⟩
 ·rcases zrj z with z | ⟨a,l,z1,z2,z3⟩
  ·have q:=r.zin p o z
   exact ⟨q.rd,zc3 (zjx r (by rw [q.no]; exact nofun)),q.nf,q.ls⟩
  ·obtain ⟨q1,vs,q2,q3⟩:=zl0 r z1 z2
   refine ⟨.inl z3,zc3 (zjx r (by rw [q1]; exact nofun)),fun od u e=>?_,fun _ _ _=>z3⟩
   rw [q2] at z3; cases z3; cases e
 ·obtain ⟨u,h1,h2⟩:=r.fin p od z
  exact ⟨u,by rw [zfj r (zcZ r h1)]; exact h1,h2⟩
 ·obtain ⟨o,t⟩:=r.x.tab P nm e
  exact ⟨zl6 r (.inl ⟨nm,e⟩),t.mv (fun _ _ h=>h) fun _ h=>h⟩
 ·have c:=r.x.ct k P q e
  exact ⟨(zfj r (zcZ r c.z)).trans c.z,zl6 r (.inr ⟨k,q,e⟩),c.nt,c.tb.mv (fun _ _ h=>h) fun _ h=>h,c.inj⟩
theorem plus_new {o : HO} (e : H p=none) (z : W'.Z p=some o) : (W.plus H W').Z p=some o:=by
 show (match H p with | none=>W'.Z p | some _=>W.Z p)=some o
 rw [e]; exact z
theorem zjA {u : HO} (e : H p=some u) : (W.plus H W').Z p=W.Z p:=by
 show (match H p with | none=>W'.Z p | some _=>W.Z p)=W.Z p
 rw [e]
theorem zp2 (e : H p=none) : (W.plus H W').F p=W'.F p:=by
 show (match H p with | none=>W'.F p | some _=>W.F p) = _
 rw [e]
theorem zp1 {u : HO} (e : H p=some u) : (W.plus H W').F p=W.F p:=by
 show (match H p with | none=>W'.F p | some _=>W.F p) = _
 rw [e]
theorem zin_at (r : HpR (gl X T) W H fr σ h) {o : HO} (z : W.Z p=some o) : ∃ u,H p=some u:=by
 rcases (r.zin p o z).rd with e | ⟨od,e⟩
 ·exact ⟨_,e⟩
 ·exact ⟨_,e⟩
theorem zbw {u : HO} (e : H p=some u) : (W.plus H W').own p=W.own p:=by
 show (match H p with | none=>zjR (W'.own p) | some _=>W.own p) = _
 rw [e]
theorem zdC (e : H p=none) : (W.plus H W').own p=zjR (W'.own p):=by
 show (match H p with | none=>zjR (W'.own p) | some _=>W.own p) = _
 rw [e]
theorem zhI (r : HpR (gl X T) W H fr σ h) {o : zaB} (e : W.own p=some o) : (W.plus H W').own p=some o:=by
 cases q : H p with
 | none=>exact absurd q (r.oin p _ e)
 | some u=>rw [zbw q]; exact e
theorem znd {o : zaB} (e : (W.plus H W').own p=some o) (n : o≠.tab) : W.own p=some o:=by
 cases q : H p with
 | none =>
  rw [zdC q] at e
  exact absurd (ziG e).1 n
 | some u=>rw [zbw q] at e; exact e
theorem plus_le (r : HpR (gl X T) W H fr σ h) (hct : ∀ k x,W.ct k=some x→W'.ct k=some x) : Wle W (W.plus H W'):=⟨fun p o z=>by
 obtain ⟨u,e⟩:=zin_at r z
 rw [zjA e]; exact z,fun p o z=>by
 obtain ⟨u,z2,_⟩:=r.fin p o z
 obtain ⟨u,e⟩:=zin_at r z2
 show (match H p with | none=>W'.F p | some _=>W.F p)=some o
 rw [e]; exact z,fun _ _ z=>z,fun _ _ z=>z,fun p vs z f=>by
 obtain ⟨u,e⟩:=zin_at r z
 show (match H p with | none=>W'.F p | some _=>W.F p)=none
 rw [e]; exact f,fun _ _=>Iff.rfl,hct⟩
theorem froz_evo (r : HpR (gl X T) W H fr σ h) (ev : Evo (W.froz T.tab H h) H W' H') : Evo W H (W.plus H W') H':=by
 refine ⟨plus_le r ev.le.ct,fun p o e z n=>⟨(ev.stay p o e ((zfj r n).trans z) (zc3 (zjx r (by rw [n]; exact nofun)))).1,by rw [zbw e]; exact n⟩,fun p o e z n=>by rw [zjA e]; exact z,fun _ _ z=>z,fun _ _ _ _ z=>znd z nofun,ev.dom,fun p o r1 r2 hp a b=>?_,fun p o z n=>?_⟩
 ·rw [zbw hp,a] at b; cases b; rfl
 ·obtain ⟨u,e⟩:=zin_at r z
  rw [zbw e]; exact n
theorem froz_R (rx : RX X T W H fr σ h) (ev : Evo (W.froz T.tab H h) H W' H') (hr : HpR (gl X T) W' H' [] [] h2) : RX X T (W.plus H W') H' fr σ h:=by
 have r:=rx.h
 have le:=plus_le (W':=W') r ev.le.ct
 have hz : ∀ {p o},W.Z p=some o→W'.Z p=some o:=fun {p o} z=>ev.le.Z p o ((zfj r (zcZ r z)).trans z)
 have hH : ∀ {p ow},W.own p=some ow→ow≠.tab→H' p=H p:=fun {p ow} e n=>by
  obtain ⟨u,hu⟩ : ∃ u,H p=some u:=by
   cases q : H p with
   | none=>exact absurd q (r.oin p _ e)
   | some u=>exact ⟨u,rfl⟩
  have nt : ¬ TB T W p:=zjx r (by rw [e]; exact fun z=>n (Option.some.inj z))
  by_cases hl : ∃ (a : Nat) (l : List Val),W.ι[a]? = some p∧h.objs[a]? = some (.hl l)
  ·obtain ⟨a,l,e1,e2⟩:=hl
   obtain ⟨_,vs,k1,_⟩:=zl0 r e1 e2
   have z : W'.Z p=some (.lst vs):=ev.le.Z p _ ((zl7 e1 e2).trans k1)
   have f0 : W.F p=none:=by
    cases q : W.F p with
    | none=>rfl
    | some od =>
     obtain ⟨u',q1,_⟩:=r.fin p od q
     have:=zcZ r q1
     rw [e] at this; cases this
   rw [(hr.zin p _ z).ls vs rfl (ev.le.L p vs ((zl7 e1 e2).trans k1) f0),k1]
  ·have z0 : W.Z p=none:=by
    cases q : W.Z p with
    | none=>rfl
    | some o=>have:=zcZ r q; rw [e] at this; cases this
   have z1 : (W.froz T.tab H h).Z p=none:=(froz_Zno fun a l e1 e2=>hl ⟨a,l,e1,e2⟩).trans z0
   rw [(ev.stay p u hu z1 (zc3 nt)).1,hu]
 have kc : ∀ {a o},H a=some (zbk a o)→H' a=some (zbk a o):=fun {a o} e=>by
  have z0 : (W.froz T.tab H h).Z a=none:=by
   cases q : (W.froz T.tab H h).Z a with
   | none=>rfl
   | some u =>
    rcases zrj q with z | ⟨n,l,e1,e2,e3⟩
    ·have q:=r.zin a u z
     rcases q.rd with k | ⟨od,k⟩
     ·rw [e] at k; cases k; exact absurd rfl (q.nf _ _)
     ·rw [e] at k; cases k; exact absurd rfl (q.nf _ _)
    ·obtain ⟨_,vs,k1,_⟩:=zl0 r e1 e2
     rw [e] at k1; cases k1
  have nt : ¬ TB T W a:=fun q=>by
   obtain ⟨ps,k⟩:=tb_H r q
   rw [e] at k; cases k
  exact (ev.stay a _ e z0 (zc3 nt)).1
 have cu : ∀ {v p ow},W.own p=some ow→ow≠.tab→Cur (gl X T) W H v p→Cur (gl X T) (W.plus H W') H' v p:=fun {v p ow} e n c=>zd8 le (hH e n) c
 refine ⟨⟨rx.f.len,fun i s e=>?_,rx.f.inj⟩,⟨fun p o z=>?_,fun p od z=>?_,fun p o z=>?_,fun p q a f z z'=>r.uni p q a f (znd z nofun) (znd z' nofun),fun q a f z=>r.oas q a f (znd z nofun),r.asn,r.lι,r.lk,fun a o ho=>?_,fun c v q=>?_,⟨fun P nm e=>?_,r.x.ki,fun c a nd e=>?_,fun k P q e=>?_⟩⟩,zpx le rx.kk⟩
 ·have c:=rx.f.at_ i s e
  cases s with
  | val v=>obtain ⟨x,a,b⟩:=c; exact ⟨x,a,b.le le⟩
  | own v=>obtain ⟨p,a,b,k⟩:=c; exact ⟨p,a,zhI r b,cu b nofun k⟩
  | own2 v =>
   obtain ⟨p,a,b,k⟩:=c
   refine ⟨p,a,zhI r b,?_⟩
   cases v with
   | lst l =>
    obtain ⟨qs,h1,h2,h3⟩:=k
    exact ⟨qs,by rw [hH b nofun]; exact h1,h2,Paired.imp2 (fun _ q z=>⟨zhI r z.1,cu z.1 nofun z.2⟩) h3⟩
   | _=>exact k
  | exc c0 v0=>obtain ⟨x,a,b⟩:=c; exact ⟨x,a,b.le le⟩
  | cell _=>exact c
  | un=>trivial
 ·cases q : H p with
  | none =>
   have z : W'.Z p=some o:=by
    have z : (match H p with | none=>W'.Z p | some _=>W.Z p)=some o:=z
    rw [q] at z; exact z
   have k:=hr.zin p o z
   refine ⟨k.rd,?_,k.nf,fun vs e f=>k.ls vs e ((zp2 q).symm.trans f)⟩
   rw [zdC q,k.no]; rfl
  | some u =>
   rw [zjA q] at z
   have k:=hr.zin p o (hz z)
   have k2:=zcZ r z
   exact ⟨k.rd,by rw [zbw q]; exact k2,k.nf,fun vs e f=>k.ls vs e (ev.le.L p vs (by rw [zfj r k2,z,e]) ((zp1 q).symm.trans f))⟩
 ·cases q : H p with
  | none =>
   obtain ⟨u',k1,k2⟩:=hr.fin p od ((zp2 q).symm.trans z)
   exact ⟨u',plus_new q k1,k2⟩
  | some u0 =>
   have z:=(zp1 q).symm.trans z
   obtain ⟨u,h1,h2⟩:=r.fin p od z
   obtain ⟨u',k1,k2⟩:=hr.fin p od (ev.le.F p od z)
   rw [hz h1] at k1; cases k1
   exact ⟨u,le.Z _ _ h1,k2⟩
 ·cases q2 : H p with
  | none =>
   rw [zdC q2] at z
   exact hr.oin p _ (ziG z).2
  | some u=>exact fun q=>by rw [ev.dom p q] at q2; cases q2
 ·obtain ⟨p,h1,h2,h3⟩:=r.objs a o ho
  refine ⟨p,h1,zhI r h2,?_⟩
  cases o with
  | inst c' fs =>
   obtain ⟨C',dx,vs,hC,hp,hf,hr',hl⟩:=h3
   refine ⟨C',dx,vs,hC,by rw [hH h2 nofun]; exact hp,fun g s q=>?_,hr',hl⟩
   have k:=hf g s q
   cases s with
   | val v=>obtain ⟨x,a,b⟩:=k; exact ⟨x,a,b.le le⟩
   | own v=>obtain ⟨q,a,b,k⟩:=k; exact ⟨q,a,zhI r b,cu b nofun k⟩
   | _=>exact k
  | hl l=>exact cu (v:=.lst l) h2 nofun h3
  | hd l=>exact cu (v:=.dct l) h2 nofun h3
 ·rcases r.cells c v q with ⟨i,x,a,b,d⟩ | ⟨h1,a,x,u,h2,h3,h4,h5⟩
  ·exact .inl ⟨i,x,a,b,d.le le⟩
  ·exact .inr ⟨h1,a,x,u,h2,kc h3,h4,h5.le le⟩
 ·obtain ⟨_,t⟩:=hr.x.tab P nm e
  exact ⟨zhI r (tab_own r e),t.mv (fun _ _ h=>h) fun _ h=>h⟩
 ·rcases r.x.kt c a nd e with z | ⟨o,z⟩
  ·exact .inl z
  ·exact .inr ⟨o,kc z⟩
 ·have c:=hr.x.ct k P q e
  have nTB : ∀ p,W'.own p=none→¬ TB T W p:=fun p n q=>by
   rcases q with ⟨nm,q⟩ | ⟨k2,q2,q⟩
   ·have:=(hr.x.tab p nm q).1
    rw [n] at this; cases this
   ·have:=(hr.x.ct k2 p q2 (ev.le.ct _ _ q)).ow
    rw [n] at this; cases this
  refine ⟨?_,?_,c.nt,c.tb.mv (fun _ _ h=>h) fun _ h=>h,c.inj⟩
  ·have z:=c.z
   cases q2 : H k with
   | none=>exact plus_new q2 z
   | some u =>
    rw [zjA q2]
    have nt:=nTB k (hr.zin k _ z).no
    cases q4 : (W.froz T.tab H h).Z k with
    | none =>
     have:=ev.thaw k u q2 q4 (zc3 nt)
     rw [this] at z; cases z
    | some o' =>
     have z':=ev.le.Z k o' q4
     rw [z] at z'; cases z'
     rcases zrj q4 with z | ⟨n,l,e1,e2,e3⟩
     ·exact z
     ·obtain ⟨_,vs,k1,_⟩:=zl0 r e1 e2
      rw [k1] at e3; cases e3
  ·cases q2 : H P with
   | none=>rw [zdC q2,c.ow]; rfl
   | some u =>
    rw [zbw q2]
    by_cases tb : TB T W P
    ·exact tb_own r tb
    ·exfalso
     have f0 : (W.froz T.tab H h).own P=none:=zc3 tb
     have n : W'.own P=none:=by
      cases q4 : (W.froz T.tab H h).Z P with
      | none=>exact (ev.stay P u q2 q4 f0).2
      | some o'=>exact ev.zown P o' q4 f0
     have ow:=c.ow
     rw [n] at ow; cases ow
theorem evs_len : ∀ (xs : Exps) {fr fr1 : Fr} {h h1 : MH} {us : List Val},evs TT C xs fr h = .ok us fr1 h1→us.length=xs.len
 | .nil,_,_,_,_,us,e=>by
  simp only [evs,rt] at e
  cases e; rfl
 | .cons x r,fr,fr1,h,h1,us,e=>by
  simp only [evs] at e
  cases q : ev TT C x fr h with
  | ok v fr2 h2 =>
   rw [bnd_ok q] at e
   cases q2 : evs TT C r fr2 h2 with
   | ok vs fr3 h3 =>
    rw [bnd_ok q2] at e
    simp only [rt] at e
    cases e
    simp [Exps.len,evs_len r q2]
   | exn=>rw [zob q2] at e; cases e
   | stuck=>rw [zhr q2] at e; cases e
  | exn=>rw [zob q] at e; cases e
  | stuck=>rw [zhr q] at e; cases e
variable {k n : Nat} {fd : FuncData} {ps : List Str} {x m : Str} {p0 : Pos} {g : Nat} {fA : Addr}
theorem se_callF {xs : Exps} (cm : CmOk X T) (tk : Takes X Wx) (F : FnOk X.prog X.w X.K X.mg X.base (L2.CX X.prog X.w) k fA fd ps (zcF (gl X T) T.ExR C (isFn g) fresh (TT.lent g))) (hr : Room k X.A) (hg : Gl X x) (hm : X.mg x=some (.ref fA)) (hk : PySem.W.keepIn X.K (.ref fA)=true)
  (hn : xs.len=n) (hb : Bnd X.K fd ps n [] id) (ha : SEs X T Wx TT C (e :: es) xs) (hdb : (x == ("__debug__" : Str))=false:=by decide) (he : starEach (e :: es) X.env=(false,eval e X.env) :: starEach es X.env:=by rfl) (hpl : (PySem.backTo pos (starEach es X.env)).any (·.1)=false:=by rfl) :
  SE X T Wx TT C false (.Call (.Name x p0) (e :: es) [] pos) (.callF g xs):=by
 refine PE.wk (pe_callG F hr hg hm hk hb tk cm ha hdb he hpl) fun σ H Q q=>?_
 simp only [ev] at q
 obtain ⟨W,fr,h,r0,a⟩:=q
 refine ⟨W,fr,h,r0,?_⟩
 cases q1 : evs TT C xs fr h with
 | stuck=>rw [zhr q1] at a; exact a.elim
 | exn c y fr1 h1=>rw [zob q1] at a; exact a
 | ok us fr1 h1 =>
  rw [bnd_ok q1] at a
  intro W1 vs H1 ev1 r1 rr
  have hl : vs.length=n:=by rw [← rr.length,evs_len xs q1,hn]
  cases q2 : ddL h1 us with
  | none=>simp only [q2] at a; exact a.elim
  | some ys =>
   simp only [q2] at a
   refine ⟨hl,rfl,fun _=>none,(fun i a e=>by cases e),fun S cs=>?_⟩
   have hS : ∀ b,S b=none:=fun b=>by
    cases z : S b with
    | none=>rfl
    | some o=>obtain ⟨i,e⟩:=cs.of b o z; cases e
   have e1 : seen H1 S=H1:=funext fun b=>zai (hS b)
   have e2 : ∀ H2,hid H2 S=H2:=fun H2=>funext fun b=>zau (hS b)
   rw [e1,List.append_nil]
   have rp:=dds_rp r1.h rr ys q2
   refine ⟨W1.froz T.tab H1 h1,ys.map Slot.val,⟨[],[]⟩,.fn g,rfl,froz_in r1.h,⟨by rw [List.length_map]; exact rp.length,fun j s y h3 h4=>?_,fun j s h3=>?_⟩,fun p j z=>(nomatch (zhl r1.h z).1),fun p j z=>(nomatch (zhl r1.h z).1),?_⟩
   ·rw [List.getElem?_map] at h3
    obtain ⟨v,h5,rfl⟩:=map_some h3
    obtain ⟨y',h6,h7⟩:=rp.get h5
    have h4 : vs[j]? = some y:=h4
    rw [h4] at h6; cases h6
    exact h7
   ·rw [List.getElem?_map] at h3
    obtain ⟨v,h5,rfl⟩:=map_some h3
    exact .inl ⟨v,rfl⟩
   ·cases q3 : C (.fn g) (ys.map Slot.val) ⟨[],[]⟩ with
    | stuck=>simp only [q3] at a; exact a.elim
    | exn=>simp only [q3] at a; exact a.elim
    | ok v outs h' =>
     simp only [q3] at a
     by_cases fl : zba v=true
     ·rw [if_pos fl] at a
      intro W' y H' ev' hr' _ res kc
      rw [e2]
      have rp : Rp (gl X T) (W1.plus H1 W') v y:=by
       cases fresh with
       | false =>
        cases v with
        | none=>cases res; exact .none
        | bool b=>cases res; exact .bool b
        | int i=>cases res; exact .int i
        | str s=>cases res; exact .str s
        | _=>cases fl
       | true =>
        cases v with
        | none=>cases res; exact .none
        | bool b=>cases res; exact .bool b
        | int i=>cases res; exact .int i
        | str s=>cases res; exact .str s
        | _=>cases fl
      exact a (W1.plus H1 W') y H' (ev1.trans (froz_evo r1.h ev')) (froz_R r1 ev' hr') rp
     ·rw [if_neg fl] at a; exact a.elim
end
end Fx
end
section
set_option maxHeartbeats 4000000
namespace Fx
open PySem PySem.Spec PyProof.Rows L2
section
variable {X : Cx} {T : Tb} {Wx : WX} {W W' W2 Ws W1 : Wd} {H H' H2 Hs H1 : Hp} {σ : St} {fr fr1 : Fr} {h h2 h1 : MH} {p q : Addr} {r : zaB} {as as' bs : List AV} {ss outs : List Slot} {vs xs ys : List V} {S : Cells} {lent : List Nat} {TT : Tbl} {C : Callee} {f f2 fresh : Bool} {e a b c o : Expr} {es : List Expr} {pos pos' apos : Pos}
theorem AvsR.evo (ev : Evo W H W' H') (r : AvsR X T σ Hs W H as xs) : AvsR X T σ Hs W' H' as xs:=⟨r.len,fun j a x h1 h2=>(r.at_ j a x h1 h2).evo ev,r.dis⟩
theorem AvsR.app (ev : Evo W1 H1 W H) (d : ∀ p,H1 p=none→Hs p=none) (r1 : AvsR X T σ Hs W1 H1 as xs) (r2 : AvsR X T σ H1 W H bs ys) : AvsR X T σ Hs W H (as ++ bs) (xs ++ ys):=by
  have apart : ∀ (j k : Nat) v w x,as[j]? = some (.f v)→bs[k]? = some (.f w)→xs[j]? = some x→ys[k]? = some x→False:=fun j k v w x a1 a2 a3 a4=>by
    obtain ⟨_,p,e,_,_,_,cu⟩:=r1.at_ j _ _ a1 a3
    obtain ⟨_,p',e',h0,_⟩:=r2.at_ k _ _ a2 a4
    rw [e] at e'; cases e'
    obtain ⟨o,ho⟩:=Cur.at _ cu
    rw [ho] at h0; cases h0
  refine ⟨by simp [r1.len,r2.len],fun j a x h1 h2=>?_,fun j k v w x h1 h2 h3 h4=>?_⟩
  · by_cases hj : j < as.length
    · rw [List.getElem?_append_left hj] at h1
      rw [List.getElem?_append_left (by rw [← r1.len]; exact hj)] at h2
      exact (r1.at_ j a x h1 h2).evo ev
    · rw [List.getElem?_append_right (by omega)] at h1
      rw [List.getElem?_append_right (by rw [← r1.len]; omega),← r1.len] at h2
      exact (r2.at_ _ a x h1 h2).dom d
  · by_cases hj : j < as.length
    · rw [List.getElem?_append_left hj] at h1
      rw [List.getElem?_append_left (by rw [← r1.len]; exact hj)] at h3
      by_cases hk : k < as.length
      · rw [List.getElem?_append_left hk] at h2
        rw [List.getElem?_append_left (by rw [← r1.len]; exact hk)] at h4
        exact r1.dis j k v w x h1 h2 h3 h4
      · rw [List.getElem?_append_right (by omega)] at h2
        rw [List.getElem?_append_right (by rw [← r1.len]; omega),← r1.len] at h4
        exact (apart j _ v w x h1 h2 h3 h4).elim
    · rw [List.getElem?_append_right (by omega)] at h1
      rw [List.getElem?_append_right (by rw [← r1.len]; omega),← r1.len] at h3
      by_cases hk : k < as.length
      · rw [List.getElem?_append_left hk] at h2
        rw [List.getElem?_append_left (by rw [← r1.len]; exact hk)] at h4
        exact (apart k _ w v x h2 h1 h4 h3).elim
      · rw [List.getElem?_append_right (by omega)] at h2
        rw [List.getElem?_append_right (by rw [← r1.len]; omega),← r1.len] at h4
        have:=r2.dis _ _ v w x h1 h2 h3 h4
        omega
variable {k n : Nat} {fd : FuncData} {ps : List Str} {x m : Str} {p0 : Pos} {g c0 mi : Nat} {fA CA : Addr} {gV : List V→List V} {ix : List Nat}
end
end Fx
end
section
set_option maxHeartbeats 4000000
namespace Fx
open PySem PySem.Spec PyProof.Rows L2
def Wd.inst (W : Wd) (x : Addr) : Wd:={ W with ι:=W.ι ++ [x],own:=fun q=>if q=x then some (.obj W.ι.length) else W.own q }
section
variable {X : Cx} {T : Tb} {Wx : WX} {W W' W2 Ws W1 : Wd} {H H' H2 Hs H1 : Hp} {σ : St} {fr fr1 : Fr} {h h2 h1 : MH} {p q xa dx CA : Addr} {r : zaB} {as as' bs : List AV} {ss outs : List Slot} {vs xs ys : List V} {S : Cells} {lent : List Nat} {TT : Tbl} {C : Callee} {f f2 fresh : Bool} {e a b c o : Expr} {es : List Expr} {pos pos' apos kpos : Pos} {ci : Nat}
def Args.app : Args→Args→Args
 | .nil,r=>r
 | .e x s,r=>.e x (s.app r)
 | .p i s,r=>.p i (s.app r)
 | .f x s,r=>.f x (s.app r)
theorem PK.wk {kws : List Keyword} {t t' : TA} (p : PK X kws t) (w : ∀ σ H Q,t' σ H Q→t σ H Q) : PK X kws t':=⟨fun pos pins s σ H Q I q=>p.run pos pins s σ H Q I (w σ H Q q)⟩
variable {k n : Nat} {fd : FuncData} {ps ks : List Str} {x m : Str} {p0 : Pos} {g c0 mi : Nat} {fA : Addr} {gV : List V→List V} {ix : List Nat} {kws : List Keyword}
end
end Fx
end
section
set_option maxHeartbeats 4000000
namespace Fx
open PySem PySem.Spec PyProof.Rows L2
def NoCm (T : Tb) : Prop:=(∀ i,T.cm.c i=none)∧T.cm.k=none
def Wd.exit (W : Wd) (lent : List Nat) : Wd:={ W with own:=fun q=>match W.own q with
 | some (.slot j)=>if j∈lent then some (.slot j) else none
 | some (.sub _)=>none
 | r=>r }
theorem exit_slot {W : Wd} {lent : List Nat} {q : Addr} {j : Nat} (e : W.own q=some (.slot j)) (hj : j∈lent) : (W.exit lent).own q=some (.slot j):=by
 show (match W.own q with | some (.slot j)=>if j∈lent then some (zaB.slot j) else none | some (.sub _)=>none | r=>r) = _
 rw [e]; exact if_pos hj
theorem zbr {W : Wd} {lent : List Nat} {q : Addr} {r : zaB} (e : W.own q=some r) (h1 : ∀ i,r≠.slot i) (h2 : ∀ i,r≠.sub i) : (W.exit lent).own q=some r:=by
 show (match W.own q with | some (.slot j)=>if j∈lent then some (zaB.slot j) else none | some (.sub _)=>none | r=>r) = _
 rw [e]
 cases r with
 | slot i=>exact absurd rfl (h1 i)
 | sub i=>exact absurd rfl (h2 i)
 | _=>rfl
theorem zcv {W : Wd} {lent : List Nat} {q : Addr} (e : W.own q=none) : (W.exit lent).own q=none:=by
 show (match W.own q with | some (.slot j)=>if j∈lent then some (zaB.slot j) else none | some (.sub _)=>none | r=>r) = _
 rw [e]
theorem zaK {W : Wd} {lent : List Nat} {q : Addr} {r : zaB} (e : (W.exit lent).own q=some r) : W.own q=some r∧(∀ j,r = .slot j→j∈lent)∧∀ j,r≠.sub j:=by
 have e : (match W.own q with | some (.slot j)=>if j∈lent then some (zaB.slot j) else none | some (.sub _)=>none | r=>r)=some r:=e
 cases q : W.own q with
 | none=>rw [q] at e; cases e
 | some r' =>
  rw [q] at e
  cases r' with
  | slot i =>
   dsimp only at e
   by_cases hi : i∈lent
   ·rw [if_pos hi] at e; cases e
    exact ⟨rfl,fun j z=>by cases z; exact hi,fun _=>nofun⟩
   ·rw [if_neg hi] at e; cases e
  | sub i=>cases e
  | _=>cases e; exact ⟨rfl,fun j z=>(nomatch z),fun _=>nofun⟩
theorem zd0 {W : Wd} {lent : List Nat} : Wle W (W.exit lent):=⟨fun _ _ h=>h,fun _ _ h=>h,fun _ _ h=>h,fun _ _ h=>h,fun _ _ _ h=>h,fun _ _=>Iff.rfl,fun _ _ h=>h⟩
theorem zjE {W W' : Wd} {H H' : Hp} {lent : List Nat} (ev : Evo W H W' H') : Evo W H (W'.exit lent) H' :=
 ⟨ev.le.trans zd0,fun p o h z n=>⟨(ev.stay p o h z n).1,zcv (ev.stay p o h z n).2⟩,ev.thaw,ev.asn,fun a f q h o=>ev.hold a f q h (zaK o).1,ev.dom,fun p o r r' h a b=>ev.zih p o r r' h a (zaK b).1,fun p o z n=>zcv (ev.zown p o z n)⟩
theorem zlf : ∀ (l : List Slot) (cs : List (Option Val)),(∀ c,Slot.cell c ∉ l)→zdG cs l=cs
 | [],_,_=>rfl
 | s :: r,cs,h=>by
  cases s with
  | cell c=>exact absurd (List.mem_cons_self) (h c)
  | _=>exact zlf r cs fun c z=>h c (List.mem_cons_of_mem _ z)
section
variable {X : Cx} {T : Tb} {Wx : WX} {W W' : Wd} {H H' H0 : Hp} {σ : St} {fr : Fr} {h : MH} {lent : List Nat} {ss : List Slot} {vs : List V} {d : Def}
theorem kill_no (hn : ∀ (i c : Nat),fr[i]?≠some (Slot.cell c)) : zfZ d fr h=h:=by
 unfold zfZ
 split
 ·rfl
 ·rw [zlf _ _ fun c z=>?_]
  rcases List.mem_append.mp z with z | z
  ·obtain ⟨i,hi⟩:=List.mem_iff_getElem?.mp (List.mem_of_mem_take z)
   exact hn i c hi
  ·obtain ⟨i,hi⟩:=List.mem_iff_getElem?.mp (List.mem_of_mem_drop z)
   exact hn i c hi
theorem exit_R (r : RX X T W H fr σ h) (hn : ∀ (i c : Nat),fr[i]?≠some (Slot.cell c)) : HpR (gl X T) (W.exit lent) H [] [] h:=by
 have le:=zd0 (W:=W) (lent:=lent)
 refine ⟨fun p o z=>⟨(r.h.zin p o z).rd,zcv (r.h.zin p o z).no,(r.h.zin p o z).nf,(r.h.zin p o z).ls⟩,r.h.fin,fun p o z=>r.h.oin p o (zaK z).1,fun p q a f z z'=>r.h.uni p q a f (zaK z).1 (zaK z').1,fun q a f z=>r.h.oas q a f (zaK z).1,r.h.asn,r.h.lι,r.h.lk,fun a o ho=>?_,fun c v e=>?_,?_⟩
 ·obtain ⟨p,h1,h2,h3⟩:=r.h.objs a o ho
  refine ⟨p,h1,zbr h2 (fun _=>nofun) (fun _=>nofun),?_⟩
  cases o with
  | inst c' fs =>
   obtain ⟨C',dx,vs,hC,hp,hf,hr,hl⟩:=h3
   refine ⟨C',dx,vs,hC,hp,fun g s q=>?_,hr,hl⟩
   have k:=hf g s q
   cases s with
   | val v=>obtain ⟨x,a,b⟩:=k; exact ⟨x,a,b.le le⟩
   | own v=>obtain ⟨p,a,b,k⟩:=k; exact ⟨p,a,zbr b (fun _=>nofun) (fun _=>nofun),k.up le⟩
   | _=>exact k
  | hl l=>exact Cur.up (v:=.lst l) le h3
  | hd l=>exact Cur.up (v:=.dct l) le h3
 ·rcases r.h.cells c v e with ⟨i,x,h1,_⟩ | ⟨_,a,x,u,h3,h4,h5,h6⟩
  ·exact absurd h1 (hn i c)
  ·exact .inr ⟨fun i=>by simp,a,x,u,h3,h4,h5,h6.le le⟩
 ·refine ⟨fun P nm e=>?_,r.h.x.ki,fun c a nd e=>?_,fun k P q e=>(r.h.x.ct k P q e).mv (fun _ _ h=>h) (fun o=>zbr o (fun _=>nofun) (fun _=>nofun)) (fun _ h=>h) rfl⟩
  ·obtain ⟨o,k⟩:=r.h.x.tab P nm e
   exact ⟨zbr o (fun _=>nofun) (fun _=>nofun),k⟩
  ·rcases r.h.x.kt c a nd e with ⟨i,z⟩ | z
   ·exact absurd z (hn i c)
   ·exact .inr z
theorem exit_res {fresh : Bool} {v : Val} {x : V} (rr : ResR (gl X T) fresh H0 W H v x) : ResR (gl X T) fresh H0 (W.exit lent) H v x:=by
 have go : ∀ v,zd5 (gl X T) H0 W H v x→zd5 (gl X T) H0 (W.exit lent) H v x:=fun v ⟨p,e,h0,z,n,cu⟩=>⟨p,e,h0,z,zcv n,cu.up zd0⟩
 cases fresh with
 | false=>exact Rp.le zd0 rr
 | true =>
  cases v with
  | lst l=>exact go _ rr
  | dct l=>exact go _ rr
  | _=>exact Rp.le zd0 rr
theorem exit_out {N : List Str} (r : RX X T W H fr σ h) (k : ∀ i∈lent,σ[i]? = (L2.start N vs)[i]?) {n : Nat} : OutR (gl X T) (W.exit lent) H lent (fr.take n) vs:=by
 intro j hj s x e1 e2
 have e1 : fr[j]? = some s:=by
  rw [List.getElem?_take] at e1
  split at e1
  ·exact e1
  ·cases e1
 have hs : σ[j]? = some (some x):=by
  rw [k j hj]
  unfold L2.start
  have hlt : j < vs.length:=(List.getElem?_eq_some_iff.mp e2).1
  rw [List.getElem?_append_left (by simpa using hlt),List.getElem?_map,e2]
  rfl
 have c:=r.f.at_ j s e1
 cases s with
 | val v =>
  obtain ⟨y,hy,ry⟩:=c
  rw [hs] at hy; cases hy
  exact Rp.le zd0 ry
 | own v =>
  obtain ⟨p,hy,ow,cu⟩:=c
  rw [hs] at hy; cases hy
  exact ⟨p,rfl,exit_slot ow hj,cu.up zd0⟩
 | _=>trivial
theorem enter_R {G : Glb} {N : List Str} (hG : gl X T=G) (hN : X.N=N) (hcm : NoCm T) (hr : HpR G W H [] [] h) (ar : ArgsR G W H ss vs) {m : Nat} (hl : ss.length + m=N.length) : RX X T W H (ss ++ List.replicate m .un) (L2.start N vs) h:=by
  subst hG
  have hlen : (L2.start N vs).length=N.length:=by
    unfold L2.start
    rw [List.length_append,List.length_map,List.length_replicate,← ar.len]; omega
  have nc : ∀ (i c : Nat),(ss ++ List.replicate m Slot.un)[i]?≠some (Slot.cell c):=fun i c e=>by
    by_cases hi : i < ss.length
    · rw [List.getElem?_append_left hi] at e
      rcases ar.kind i _ e with ⟨v,z⟩ | ⟨v,z⟩ <;> cases z
    · rw [List.getElem?_append_right (by omega),List.getElem?_replicate] at e
      split at e <;> cases e
  refine ⟨⟨by rw [List.length_append,List.length_replicate,hlen]; exact hl,fun i s e=>?_,fun i j c e1 _=>absurd e1 (nc i c)⟩,⟨hr.zin,hr.fin,hr.oin,hr.uni,hr.oas,hr.asn,hr.lι,hr.lk,hr.objs,fun c v e=>?_,⟨hr.x.tab,hr.x.ki,fun c a nd e=>?_,hr.x.ct⟩⟩,⟨fun i c e=>(by rw [hcm.1 i] at e; cases e),fun i c e=>(by rw [hcm.1 i] at e; cases e),fun k q e=>(by rw [hcm.2] at e; cases e)⟩⟩
  · by_cases hi : i < ss.length
    · rw [List.getElem?_append_left hi] at e
      have hv : i < vs.length:=by rw [← ar.len]; exact hi
      have hx : vs[i]? = some vs[i]:=List.getElem?_eq_getElem hv
      have hs : (L2.start N vs)[i]? = some (some vs[i]):=by
        unfold L2.start
        rw [List.getElem?_append_left (by simpa using hv),List.getElem?_map,hx]; rfl
      have sv:=ar.at_ i s _ e hx
      rcases ar.kind i s e with ⟨v,rfl⟩ | ⟨v,rfl⟩
      · exact ⟨_,hs,sv⟩
      · obtain ⟨p,ep,ow,cu⟩:=sv
        rw [ep] at hs
        exact ⟨p,hs,ow,cu⟩
    · rw [List.getElem?_append_right (by omega),List.getElem?_replicate] at e
      split at e
      · cases e; trivial
      · cases e
  · rcases hr.cells c v e with ⟨i,x,h1,_⟩ | ⟨_,k⟩
    · simp at h1
    · exact .inr ⟨fun i=>nc i c,k⟩
  · rcases hr.x.kt c a nd e with ⟨i,z⟩ | z
    · simp at z
    · exact .inr z
end

abbrev WE' (E : XK) : WX:=fun cls d _ H=>E cls d H
theorem zcF.len {G : Glb} {ExR : Wd→Hp→Nat→Option Val→Value→Option Addr→Prop} {TT : Tbl} {n g : Nat} {d : Def} {fresh : Bool} {lent : List Nat} (hd : TT.defs g=some d) {vs : List V} {H : Hp} {Q : VK} {E : XK} (q : zcF G ExR (call TT n) (isFn g) fresh lent vs H Q E) : vs.length=d.params:=by
 obtain ⟨W,ss,h,t,rfl,hr,ar,_,_,m⟩:=q
 cases n with
 | zero=>exact m.elim
 | succ n =>
  simp only [call,hd] at m
  cases e : enter d ss [] h with
  | none=>rw [e] at m; exact m.elim
  | some sh =>
   unfold enter at e
   split at e
   ·rename_i z; rw [← ar.len]; exact z.1
   ·cases e
theorem fx_fn {P : Program} {w : World} {K : PySem.W.Frag} {mg : Str→Option Value} {base : Heap} {T : Tb} {TT : Tbl} {n g k : Nat} {d : Def} {f : Addr} {name qual : Str} {params : Arguments} {body : List Stmt} {scope : Scope} {dV kV doc pm cdv ct oc : Value} {an od : Option Addr}
  {osl : Array (Option Value)} {N ps : List Str} {G : Glb} (hG : G = ⟨P,w,K,T.fnA,T.clsA,T.fldN,T.lamO,T.lamQ,T.tab,T.exV⟩) (ok : ExOk T) (hcm : NoCm T) (lk : K.lookup f=some ⟨oc,od,.func (PySem.W.fnOf name qual params body scope dV kV doc pm an cdv ct),osl⟩) (hcd : PySem.W.codeIn K cdv qual=true) (S : FnScope N ps scope)
  (hd : TT.defs g=some d) (hp : d.params=ps.length) (hs : d.slots=N.length) (hc : d.caps = 0) (h1 : d.za1 = []) (h2 : d.cells = [])
  (hbody : ∀ (A : Around) (outer : List Env) (s : Shared) (H : Hp) (E : XK) (En : En),Room k (A.deeper (envOfC qual scope s.heap.objs.size f cdv))→En.fr=d.fresh→En.lent=d.lent →
   SSs (cxOf (L2.CX P w) P w K mg base N qual scope f cdv A outer s H E) T (WE' E) En TT (call TT n) body d.body) :
  FnOk P w K mg base (L2.CX P w) (k + 1) f (PySem.W.fnOf name qual params body scope dV kV doc pm an cdv ct) ps (zcF G T.ExR (call TT (n + 1)) (isFn g) d.fresh d.lent):=by
 refine fn_of lk hcd S (fun vs H Q E q=>by rw [zcF.len hd q,hp]) fun A outer s H vs Q E hr q=>?_
 obtain ⟨W,ss,h,t,rfl,hR,ar,hsl,hsb,m⟩:=q
 simp only [call,hd] at m
 have hpl : ps.length≤N.length:=by
  have q:=congrArg List.length S.pre
  rw [List.length_take] at q
  omega
 have hen : enter d ss [] h=if ss.length=d.params then some (ss ++ List.replicate (d.slots - d.params) Slot.un,h) else none:=by
  unfold enter
  rw [h1,h2,hc]
  by_cases e : ss.length=d.params
  ·rw [if_pos ⟨e,rfl,rfl⟩,if_pos e]; rfl
  ·rw [if_neg (fun z=>e z.1),if_neg e]
 rw [hen] at m
 by_cases hl : ss.length=d.params
 ·rw [if_pos hl] at m
  dsimp only at m
  let X:=cxOf (L2.CX P w) P w K mg base N qual scope f cdv A outer s H E
  let En : En:=⟨W,H,d.fresh,d.lent,L2.start N vs,hsl⟩
  have gX : gl X T=G:=hG.symm
  have hlen : ss.length + (d.slots - d.params)=N.length:=by omega
  refine ⟨_,hbody A outer s H E En hr rfl rfl,W,ss ++ List.replicate (d.slots - d.params) Slot.un,h,enter_R (X:=X) gX rfl hcm hR ar hlen,fun i _=>rfl,Evo.refl _ _,?_⟩
  have nc : ∀ {W' H' fr' σ' h'},RX X T W' H' fr' σ' h'→∀ (i c : Nat),fr'[i]?≠some (Slot.cell c):=fun r i c e=>by
   have : T.cm.c i=some c:=r.f.at_ i _ e
   rw [hcm.1 i] at this; cases this
  have out : ∀ {W' H' fr' σ' h'},RX X T W' H' fr' σ' h'→En.keep σ'→HpR G (W'.exit d.lent) H' [] [] (zfZ d fr' h')∧OutR G (W'.exit d.lent) H' d.lent (fr'.take d.params) vs:=fun {W' H' fr' σ' h'} r k=>by
   rw [kill_no (nc r),← gX]
   exact ⟨exit_R r (nc r),exit_out (N:=N) r k⟩
  cases q : exs TT (call TT n) d.body (ss ++ List.replicate (d.slots - d.params) Slot.un) h with
  | nx fr' h' =>
   rw [q] at m
   intro W' σ' H' ev r k
   obtain ⟨hR',ho⟩:=out r k
   exact m (W'.exit d.lent) .non H' (zjE ev) hR' ho (by cases d.fresh <;> exact Rp.none)
  | ret v fr' h' =>
   rw [q] at m
   intro W' x σ' H' ev r k rr
   obtain ⟨hR',ho⟩:=out r k
   refine m (W'.exit d.lent) x H' (zjE ev) hR' ho ?_
   rw [← gX]
   exact exit_res rr
  | exn c x fr' h' =>
   rw [q] at m
   intro W' cls dd σ' H' ev r k ex
   obtain ⟨hR',ho⟩:=out r k
   exact m (W'.exit d.lent) cls dd H' (zjE ev) hR' ho (ok _ _ _ _ _ _ _ _ zd0.lo ex)
  | brk fr' h'=>rw [q] at m; exact m.elim
  | cont fr' h'=>rw [q] at m; exact m.elim
  | stuck=>rw [q] at m; exact m.elim
 ·rw [if_neg hl] at m
  exact m.elim
end Fx
end
section
set_option maxHeartbeats 4000000
namespace Fx
open PySem PySem.Spec PyProof.Rows L2 LamX
structure LamD where
 qual : Str
 params : Arguments
 body : Expr
 scope : Scope
 fr : List Str
structure ClOk (cl : List (Str × Addr)) (fr : List Str) (as : List Addr) : Prop where
 at_ : ∀ (j : Nat) y,fr[j]? = some y→cl.lookup y=as[j]?
 len : as.length=fr.length
 of : ∀ y c,cl.lookup y=some c→y∈fr
 inj : ∀ x y c,cl.lookup x=some c→cl.lookup y=some c→x=y
def zdl (D : LamD) (f : Addr) (as : List Addr) (k : Addr) : HO:=.ext fun h=>∃ cl pm ctv,h.get? f=some (PySem.W.kla_obj "<lambda>" D.qual D.params D.body D.scope cl pm k ctv)∧ClOk cl D.fr as
theorem lamHO_ok {P : Program} {w : World} {H : Hp} {D : LamD} {h : Heap} {f k : Addr} {as : List Addr} (z : ∃ cl pm ctv,h.get? f=some (PySem.W.kla_obj "<lambda>" D.qual D.params D.body D.scope cl pm k ctv)∧ClOk cl D.fr as) : ObjOk P w H h f (zdl D f as k):=by
 obtain ⟨cl,pm,ctv,e,c⟩:=z
 exact ⟨⟨cl,pm,ctv,e,c⟩,⟨_,e⟩,fun h1 h2 ⟨cl,pm,ctv,e,c⟩ st=>⟨cl,pm,ctv,st _ e,c⟩⟩
theorem rd_ok {P : Program} {w : World} {H : Hp} {h : Heap} {p : Addr} {u : HO} (x : HOk P w H h) (r : Rd H p u) : ObjOk P w H h p u:=by
 rcases r with r | ⟨od,r⟩
 ·exact x p _ r
 ·exact (x p _ r).2
theorem rd_ext {P : Program} {w : World} {H : Hp} {h : Heap} {p : Addr} {φ : Heap→Prop} (x : HOk P w H h) (r : Rd H p (.ext φ)) : φ h:=(rd_ok x r).1
theorem znR {M : Model} {A : Around} {E : Value→Shared→Prop} {s : Shared} {name qual : Str} {params : Arguments} {body : Expr} {scope : Scope} {env : Env} {c P : Addr} {ps : Array Value} {pos : Pos} {firstLine : Nat} {mg : Str→Option Value}
 {clos : List (Str × Addr)} {Q : Value→Shared→Prop} (hcl : closureFor scope env=pure clos) (hge0 : env.globals=mainGlobals) (hg : s.heap.Ns mainGlobals mg) (hcode : env.code = .ref c) (C : PySem.W.CodeHd s.heap c P) (hP : s.heap.get? P=some (PySem.W.tabObj ps)) (ht : TriplesOk ps.toList)
  (hnf : codeAmong pos ps.toList=none) (hgP : mainGlobals≠P) (hb : s.heap.BuiltinsAt mg P)
  (h : ∀ c' P2 ctv h' tk,Heap.ExtBut P s.heap h'→s.heap.objs.size≤c'→c' < h'.objs.size→s.heap.objs.size≤P2→PySem.W.CodeHd h' c' P2→h'.get? P2=some (PySem.W.tabObj #[])→h'.CodeRec (.ref c') qual→h'.get? P=some (PySem.W.tabObj (ps ++ #[rawInt pos.line,rawInt pos.col,.ref c'])) →
   Q (.ref h'.objs.size) { s with heap:=h'.push (PySem.W.kla_obj name qual params body scope clos ((mg "__name__").getD .none) c' ctv),toks:=tk }) :
  wpAny M A (makeTail name qual params (.expr body) scope env .none .none none pos firstLine) Q E s:=by
 obtain ⟨bm,ob,hbm,hne0,_,hneP,hbo,hcls,hdict,hdata⟩:=hb
 unfold makeTail
 rw [hcl,hge0]
 refine wpAny_bind (wpAny_pure ?_)
 cases clos with
 | nil =>
  simp only [List.isEmpty_nil,if_true]
  refine wpAny_bind (wpAny_pure ?_)
  refine wpAny_bind (wpAny_functionCodeX hcode (C.code hP ht) (C.tab hP) hnf fun c' h' tk hx hge hlt _ hrec htb ⟨P2,p1,p2,p3⟩=>?_)
  have hg':=hg.extBut hx hgP
  refine wpAny_bind (wpAny_builtinsFor hg' hbm hne0 (hx _ _ hneP hbo) hcls hdict hdata ?_)
  refine wpAny_bind (wpAny_nsGet hg' ?_)
  exact wpAny_bind (wpAny_pure (wpAny_newObj_type (h c' P2 .none h' tk hx hge hlt p1 (PySem.W.CodeHd.of p2 p3) p3.2 hrec htb.2) (by size_fits)))
 | cons q r =>
  simp only [List.isEmpty_cons,Bool.false_eq_true,if_false]
  refine wpAny_bind (wpAny_newTextTuple ?_)
  refine wpAny_bind (wpAny_functionCodeX hcode ((C.keeps fun b o e=>Heap.get?_push_of_some _ e).code (Heap.get?_push_of_some _ hP) ht) ((C.keeps fun b o e=>Heap.get?_push_of_some _ e).tab (Heap.get?_push_of_some _ hP)) hnf fun c' h' tk hx hge hlt _ hrec htb ⟨P2,p1,p2,p3⟩=>?_)
  have hg':=(hg.push _).extBut hx hgP
  have hx' : Heap.ExtBut P s.heap h':=fun b o hb' e=>hx b o hb' (Heap.get?_push_of_some _ e)
  have hge' : s.heap.objs.size≤c':=Nat.le_trans (by rw [Heap.size_push]; omega) hge
  have hge2 : s.heap.objs.size≤P2:=Nat.le_trans (by rw [Heap.size_push]; omega) p1
  refine wpAny_bind (wpAny_builtinsFor hg' hbm hne0 (hx' _ _ hneP hbo) hcls hdict hdata ?_)
  refine wpAny_bind (wpAny_nsGet hg' ?_)
  exact wpAny_bind (wpAny_pure (wpAny_newObj_type (h c' P2 _ h' tk hx' hge' hlt hge2 (PySem.W.CodeHd.of p2 p3) p3.2 hrec htb.2) (by size_fits)))
theorem zig {M : Model} {A : Around} {E : Value→Shared→Prop} {s : Shared} {name qual : Str} {params : Arguments} {body : Expr} {scope : Scope} {env : Env} {c P : Addr} {ps : Array Value} {pos : Pos} {firstLine : Nat} {mg : Str→Option Value}
 {clos : List (Str × Addr)} {Q : Value→Shared→Prop} (hcl : closureFor scope env=pure clos) (hge0 : env.globals=mainGlobals) (hg : s.heap.Ns mainGlobals mg) (hcode : env.code = .ref c) (C : PySem.W.CodeHd s.heap c P) (hP : s.heap.get? P=some (PySem.W.tabObj ps)) (ht : TriplesOk ps.toList)
  (hnf : codeAmong pos ps.toList=none) (hgP : mainGlobals≠P) (hb : s.heap.BuiltinsAt mg P)
  (h : ∀ c' P2 ctv h' tk,Heap.ExtBut P s.heap h'→s.heap.objs.size≤c'→c' < h'.objs.size→s.heap.objs.size≤P2→PySem.W.CodeHd h' c' P2→h'.get? P2=some (PySem.W.tabObj #[])→h'.CodeRec (.ref c') qual→h'.get? P=some (PySem.W.tabObj (ps ++ #[rawInt pos.line,rawInt pos.col,.ref c'])) →
   Q (.ref h'.objs.size) { s with heap:=h'.push (PySem.W.kla_obj name qual params body scope clos ((mg "__name__").getD .none) c' ctv),toks:=tk }) :
  wpAny M A (makeFunction name qual params (.expr body) scope env [] [] [] pos firstLine) Q E s:=by
 rw [makeFunction_eq]
 simp only [List.zip_nil_right,List.filterMap_nil,List.isEmpty_nil,if_true,pure_bind]
 exact znR hcl hge0 hg hcode C hP ht hnf hgP hb h
theorem codeHd_at {h1 h2 : Heap} {c P : Addr} (x : PySem.W.CodeHd h1 c P) (st : ∀ o,h1.get? c=some o→h2.get? c=some o) : PySem.W.CodeHd h2 c P:=by
 obtain ⟨o,vs,file,tf,flags,tg,inF,text,tt,e,r⟩:=x
 exact ⟨o,vs,file,tf,flags,tg,inF,text,tt,st _ e,r⟩
theorem zpW {h : Heap} {c P : Addr} (x : PySem.W.CodeHd h c P) : c≠P:=by
 obtain ⟨o,vs,file,tf,flags,tg,inF,text,tt,e,_,_,_,_,_,_,_,_,n⟩:=x
 exact n
section
variable {X : Cx} {pins : List (Addr × Obj)} {σ : L2.St} {H : Hp} {s : Shared}
theorem codeN_at {P : Program} {w : World} {h : Heap} {c P2 : Addr} {q : Str} (x : HOk P w H h) (r : Rd H c (zen c q P2)) : h.CodeRec (.ref c) q∧PySem.W.CodeHd h c P2:=by
 obtain ⟨⟨oc,vs,t,a,b,d⟩,e⟩:=rd_ext x r
 exact ⟨⟨c,oc,vs,t,rfl,a,b,d⟩,e⟩
theorem inv_table2 {P c P2 : Addr} {q : Str} {ps more : Array Value} {h' : Heap} {t' : Nat} (I : Inv X pins σ H s) (hP : H P=some (.tbl ps)) (k : ∀ b o,b≠P→s.heap.get? b=some o→h'.get? b=some o)
    (hm : h'.get? P=some { cls:=.none,data:=.fields (ps ++ more) }) (hc : s.heap.objs.size≤c) (hc2 : s.heap.objs.size≤P2) (ho : ∃ (oc : Obj) (vs : Array Value) (t : Tok),h'.get? c=some oc∧oc.data = .fields vs∧vs[1]? = some (.str q t)) (hd : PySem.W.CodeHd h' c P2) (ht2 : h'.get? P2=some { cls:=.none,data:=.fields #[] }) :
    Inv X pins σ (upd (upd (upd H P (.tbl (ps ++ more))) P2 (.tbl #[])) c (zen c q P2)) { s with heap:=h',toks:=t' }:=by
  have nC : H c=none:=I.hok.fresh hc
  have n2 : H P2=none:=I.hok.fresh hc2
  have nPc : P≠c:=ne_of_none hP nC
  have nP2 : P≠P2:=ne_of_none hP n2
  have nc2 : c≠P2:=zpW hd
  have at_ : ∀ b,b≠P→b≠c→b≠P2→upd (upd (upd H P (.tbl (ps ++ more))) P2 (.tbl #[])) c (zen c q P2) b=H b:=fun b h1 h2 h3=>by rw [upd_ne h2,upd_ne h3,upd_ne h1]
  have atP : upd (upd (upd H P (.tbl (ps ++ more))) P2 (.tbl #[])) c (zen c q P2) P=some (.tbl (ps ++ more)):=by rw [upd_ne nPc,upd_ne nP2,upd_same]
  have at2 : upd (upd (upd H P (.tbl (ps ++ more))) P2 (.tbl #[])) c (zen c q P2) P2=some (.tbl #[]):=by rw [upd_ne nc2.symm,upd_same]
  have nP : ∀ b u,H b=some u→(∀ q,u≠.tbl q)→b≠P:=fun b u e q z=>by
    rw [z,hP] at e
    exact q ps (Option.some.inj e).symm
  have nN : ∀ b,H b=none→b≠P:=fun b e z=>by
    rw [z,hP] at e
    cases e
  have lt' : ∀ b o,s.heap.get? b=some o→b≠c:=fun b o e z=>by
    rw [z] at e
    exact Nat.lt_irrefl _ (Nat.lt_of_lt_of_le (Heap.lt_size e) hc)
  have lt2 : ∀ b o,s.heap.get? b=some o→b≠P2:=fun b o e z=>by
    rw [z] at e
    exact Nat.lt_irrefl _ (Nat.lt_of_lt_of_le (Heap.lt_size e) hc2)
  have sm : ∀ b u,H b=some u→b≠c:=fun b u e=>ne_of_none e nC
  have sm2 : ∀ b u,H b=some u→b≠P2:=fun b u e=>ne_of_none e n2
  refine I.step (g':=s.gens) (d':=s.drawn) (ch:=[]) (fun b hb=>absurd hb (by simp)) (fun b o _ _ _ e n=>k b o (nN b n) e) (fun b o _ _ _ e n=>⟨o.slots,k b o (nN b n) e⟩)
    (fun b o _ e n=>by rw [at_ b (nN b n) (lt' b o e) (lt2 b o e)]; exact n) (fun b o _ e=>?_) (fun b xs e=>by rw [at_ b (nP b _ e (fun q z=>by cases z)) (sm b _ e) (sm2 b _ e)]; exact e) (fun b o u e=>by rw [at_ b (nP b _ e (fun q z=>by cases z)) (sm b _ e) (sm2 b _ e)]; exact e) (fun b qs e=>?_) (fun m hn=>?_) (fun b u e=>?_) I.bare
  · by_cases hb : b=P
    · rw [hb]
      exact ⟨_,hm⟩
    · exact ⟨o,k b o hb e⟩
  · by_cases hb : b=P
    · rw [hb,hP] at e
      cases e
      rw [hb,atP]
      exact ⟨more,rfl⟩
    · rw [at_ b hb (sm b _ e) (sm2 b _ e),e]
      exact ⟨#[],by simp⟩
  · obtain ⟨ob,es,ep,ho,r⟩:=hn
    exact ⟨ob,es,ep,k _ ob (nN _ I.free) ho,r⟩
  · by_cases hb : b=c
    · rw [hb,upd_same] at e
      cases e
      rw [hb]
      obtain ⟨oc,vs,t,e1,e2,e3⟩:=ho
      exact ⟨⟨⟨oc,vs,t,e1,e2,e3⟩,hd⟩,⟨oc,e1⟩,fun h1 h2 ⟨⟨oc,vs,t,a,b,c⟩,d⟩ st=>⟨⟨oc,vs,t,st _ a,b,c⟩,codeHd_at d st⟩⟩
    · by_cases hb2 : b=P
      · rw [hb2,atP] at e
        cases e
        rw [hb2]
        exact hm
      · by_cases hb3 : b=P2
        · rw [hb3,at2] at e
          cases e
          rw [hb3]
          exact ht2
        · rw [at_ b hb2 hb hb3] at e
          refine (I.hok b u e).stay (fun d v hd q=>k d v ?_ q) (fun d q=>by rw [at_ d (nP d _ q (fun q z=>by cases z)) (sm d _ q) (sm2 d _ q)]; exact q) fun d xs q=>by rw [at_ d (nP d _ q (fun q z=>by cases z)) (sm d _ q) (sm2 d _ q)]; exact q
          rcases hd with z | z
          · rw [z]
            exact hb2
          · exact nP d _ z (fun q z=>by cases z)
end
def tLam (E : Hp→Prop) (D : LamD) (P : Addr) (lpos : Pos) (as : List Addr) : TE:=fun σ H Q=>E H∧∃ ps : Array Value,H P=some (.tbl ps)∧TriplesOk ps.toList ∧
 (∀ cv,codeAmong lpos ps.toList=some cv→∃ k,cv = .ref k∧∀ f,H f=none→Q (.ref f) (upd H f (zdl D f as k))) ∧
 (codeAmong lpos ps.toList=none→∀ k P2 f,H k=none→H P2=none→H f=none→f≠k→f≠P2→k≠P2→Q (.ref f) (upd (upd (upd (upd H P (.tbl (ps ++ #[rawInt lpos.line,rawInt lpos.col,.ref k]))) P2 (.tbl #[])) k (zen k D.qual P2)) f (zdl D f as k)))
def TabG (X : Cx) (E : Hp→Prop) (c P : Addr) : Prop:=∀ {pins : List (Addr × Obj)} {σ : L2.St} {H : Hp} {s : Shared},Inv X pins σ H s→(∃ ps,H P=some (.tbl ps))→E H→PySem.W.CodeHd s.heap c P∧s.heap.BuiltinsAt X.mg P∧mainGlobals≠P
theorem TabB.g {X : Cx} {c P : Addr} (TB : TabB X.base X.mg c P) : TabG X (fun _=>True) c P:=fun I _ _=>⟨TB.code.keeps I.bk,TB.bm.keeps I.bk,TB.gP⟩
section
variable {X : Cx} {D : LamD} {c P : Addr} {as : List Addr} {lpos : Pos} {E : Hp→Prop}
theorem pe_lamG (TG : TabG X E c P) (hcode : X.env.code = .ref c) (hq : D.qual=X.env.qual ++ "<lambda>") (hdef : defaultsOf D.params X.env=([],[])) (hfree : ∀ y∈D.scope.names,y.2 = .free→∃ c,X.env.cells.lookup y.1=some c) (hfr : ∀ y∈D.scope.names,y.2 = .free→y.1∈D.fr)
  (hlen : as.length=D.fr.length) (has : ∀ (j : Nat) y,D.fr[j]? = some y→(y,NameKind.free)∈D.scope.names∧∃ a,as[j]? = some a∧X.env.cells.lookup y=some a) : PE X (.Lambda D.params D.body D.scope lpos) (tLam E D P lpos as):=by
 refine ⟨fun pins s σ H Q I q=>?_⟩
 obtain ⟨hE,ps,hP,ht,hit,new⟩:=q
 have hcl : ClOk (cloFrom X.env.cells D.scope.names []) D.fr as:=by
  refine ⟨fun j y e=>?_,hlen,fun y c e=>?_,fun x y c e1 e2=>I.ok.inj x y c (NdefX.clo_cm hfree e1) (NdefX.clo_cm hfree e2)⟩
  ·obtain ⟨h1,a,h2,h3⟩:=has j y e
   rw [h2]
   exact NdefX.clo_has hfree h1 h3
  ·rcases cloFrom_mem (PySem.mem_of_lookup e) with hm | ⟨h1,_⟩
   ·cases hm
   ·exact hfr _ h1 rfl
 have hP' : s.heap.get? P=some { cls:=.none,data:=.fields ps }:=I.hok P _ hP
 obtain ⟨hC,bP,gP⟩:=TG I ⟨ps,hP⟩ hE
 refine PySem.W.kla_eval hdef ?_
 rw [← hq]
 cases hc : codeAmong lpos ps.toList with
 | some cv =>
  obtain ⟨k,rfl,hQ⟩:=hit cv hc
  refine PySem.W.kla_makeFunctionHit (mg:=X.mg) (c:=c) (P:=P) (ps:=ps) (closure_ok hfree) I.ok.glob (I.mod.glob.keeps I.bk) hcode hC hP' ht hc bP fun ctv h' tk hx hsz=>?_
  have I1 : Inv X pins σ H { s with heap:=h',toks:=tk }:=I.kept hx
  have nF : H h'.objs.size=none:=I1.hok.fresh (Nat.le_refl _)
  have I2:=I1.laid (a:=h'.objs.size) (o:=zdl D h'.objs.size as k) (h':=h'.push (PySem.W.kla_obj "<lambda>" D.qual D.params D.body D.scope (cloFrom X.env.cells D.scope.names []) ((X.mg "__name__").getD .none) k ctv)) (t':=tk) (fun b o e=>Heap.get?_push_of_some _ e) (Nat.le_refl _)
   (lamHO_ok ⟨_,_,_,Heap.get?_push_size _ rfl,hcl⟩)
  exact ⟨.ref h'.objs.size,_,I2,rfl,hQ _ nF⟩
 | none =>
  refine zig (mg:=X.mg) (c:=c) (P:=P) (ps:=ps) (closure_ok hfree) I.ok.glob (I.mod.glob.keeps I.bk) hcode hC hP' ht hc gP bP fun k P2 ctv h' tk hx hge hlt hge2 hd ht2 hrec htb=>?_
  obtain ⟨k2,oc,vs,t,e2,hoc,hdd,hv⟩:=hrec
  cases e2
  have I1:=inv_table2 (t':=tk) (q:=D.qual) (more:=#[rawInt lpos.line,rawInt lpos.col,.ref k]) (h':=h') I hP (fun b o hb e=>hx b o hb e) htb hge hge2 ⟨oc,vs,t,hoc,hdd,hv⟩ hd ht2
  have nF:=I1.hok.fresh (Nat.le_refl h'.objs.size)
  have I2:=I1.laid (a:=h'.objs.size) (o:=zdl D h'.objs.size as k) (h':=h'.push (PySem.W.kla_obj "<lambda>" D.qual D.params D.body D.scope (cloFrom X.env.cells D.scope.names []) ((X.mg "__name__").getD .none) k ctv)) (t':=tk) (fun b o e=>Heap.get?_push_of_some _ e) (Nat.le_refl _)
   (lamHO_ok ⟨_,_,_,Heap.get?_push_size _ rfl,hcl⟩)
  have nF' : H h'.objs.size=none:=by
   cases q : H h'.objs.size with
   | none=>rfl
   | some o=>exact absurd (I.hok.lt q) (Nat.not_lt.mpr (Nat.le_trans hge (Nat.le_of_lt hlt)))
  exact ⟨.ref h'.objs.size,_,I2,rfl,new hc k P2 h'.objs.size (I.hok.fresh hge) (I.hok.fresh hge2) nF' (Nat.ne_of_gt hlt) (Nat.ne_of_gt (Heap.lt_size ht2)) (zpW hd)⟩
end
end Fx
end
section
set_option maxHeartbeats 4000000
namespace Fx
open PySem PySem.Spec PyProof.Rows L2 LamX
section
variable {G : Glb} {W : Wd} {H : Hp} {N : List Str} {ec : Ec} {fr : Fr} {σ : L2.St} {h : MH} {P k f : Addr} {D : LamD} {as : List Addr} {lpos : Pos} {l : Nat}
theorem tab_R {ps ps' : Array Value} (r : R G W H N ec fr σ h) (hP : H P=some (.tbl ps)) (ow : W.own P=some .tab) (hG : ∀ nm',(G.tab P=some nm'∨∃ k q,W.ct k=some (P,q)∧nm' = inQ q)→TriplesOk ps'.toList∧∀ (pos : Pos) (cv : Value),codeAmong pos ps'.toList=some cv→∃ c P2,cv = .ref c∧W.ct c=some (P2,nm' pos.line pos.col)) :
    R G W (upd H P (.tbl ps')) N ec fr σ h:=by
  have hne : ∀ {p},p≠P→upd H P (.tbl ps') p=H p:=fun e=>upd_ne e
  have own_ne : ∀ {p o},W.own p=some o→o≠.tab→p≠P:=fun q n e=>by rw [e,ow] at q; cases q; exact n rfl
  have Z_ne : ∀ {p o},W.Z p=some o→p≠P:=fun q e=>by
    have:=(r.h.zin _ _ q).no
    rw [e,ow] at this; cases this
  have cu : ∀ {v : Val} {p : Addr},p≠P→Cur G W H v p→Cur G W (upd H P (.tbl ps')) v p:=fun {v p} e c=>by
    cases v with
    | lst l=>obtain ⟨vs,a,b⟩:=c; exact ⟨vs,by rw [hne e]; exact a,b⟩
    | dct l=>obtain ⟨vs,a,b⟩:=c; exact ⟨vs,by rw [hne e]; exact a,b⟩
    | _=>exact c
  refine ⟨⟨r.f.len,fun i s hsl=>?_,r.f.inj⟩,⟨fun p o' q=>?_,fun p o' q=>?_,fun p o' q=>?_,r.h.uni,r.h.oas,r.h.asn,r.h.lι,r.h.lk,fun n o' ho=>?_,fun c v q=>?_,⟨fun P' nm' e=>?_,r.h.x.ki,fun c a nd e=>?_,fun k' P' q' e=>?_⟩⟩,r.kk⟩
  · have c:=r.f.at_ i s hsl
    cases s with
    | own v=>obtain ⟨p,a,b,k⟩:=c; exact ⟨p,a,b,cu (own_ne b nofun) k⟩
    | own2 v =>
      obtain ⟨p,a,b,k⟩:=c
      refine ⟨p,a,b,?_⟩
      cases v with
      | lst l =>
        obtain ⟨qs,h1,h2,h3⟩:=k
        exact ⟨qs,by rw [hne (own_ne b nofun)]; exact h1,h2,Paired.imp2 (fun _ q z=>⟨z.1,cu (own_ne z.1 nofun) z.2⟩) h3⟩
      | _=>exact k
    | _=>exact c
  · have q':=r.h.zin p o' q
    exact ⟨by rcases q'.rd with e | ⟨od,e⟩
              · exact .inl (by rw [hne (Z_ne q)]; exact e)
              · exact .inr ⟨od,by rw [hne (Z_ne q)]; exact e⟩,q'.no,q'.nf,fun vs e=>by rw [hne (Z_ne q)]; exact q'.ls vs e⟩
  · obtain ⟨u,h1,h2⟩:=r.h.fin p o' q
    exact ⟨u,h1,by rw [hne (Z_ne h1)]; exact h2⟩
  · by_cases e : p=P
    · rw [e,upd_same]; exact nofun
    · rw [hne e]; exact r.h.oin p o' q
  · obtain ⟨p,h1,h2,h3⟩:=r.h.objs n o' ho
    refine ⟨p,h1,h2,?_⟩
    cases o' with
    | inst c' fs =>
      obtain ⟨C',dx,vs,hC,hp,hf,hr,hl⟩:=h3
      refine ⟨C',dx,vs,hC,by rw [hne (own_ne h2 nofun)]; exact hp,fun g s q=>?_,hr,hl⟩
      have k:=hf g s q
      cases s with
      | own v=>obtain ⟨p,a,b,k⟩:=k; exact ⟨p,a,b,cu (own_ne b nofun) k⟩
      | _=>exact k
    | hl l=>exact cu (v:=.lst l) (own_ne h2 nofun) h3
    | hd l=>exact cu (v:=.dct l) (own_ne h2 nofun) h3
  · rcases r.h.cells c v q with ⟨i,x,h1,h2,h3⟩ | ⟨h1,a,x,u,h2,h3,h4,h5⟩
    · exact .inl ⟨i,x,h1,h2,h3⟩
    · exact .inr ⟨h1,a,x,u,h2,by rw [hne (fun e=>by rw [e,hP] at h3; cases h3)]; exact h3,h4,h5⟩
  · obtain ⟨o,t⟩:=r.h.x.tab P' nm' e
    by_cases q : P' = P
    · subst q
      exact ⟨o,ps',upd_same,hG nm' (.inl e)⟩
    · exact ⟨o,t.keep (fun _ _ h=>h) (hne q)⟩
  · rcases r.h.x.kt c a nd e with z | ⟨o,z⟩
    · exact .inl z
    · exact .inr ⟨o,by rw [hne (fun e=>by rw [e,hP] at z; cases z)]; exact z⟩
  · have c:=r.h.x.ct k' P' q' e
    refine ⟨c.z,c.ow,c.nt,?_,c.inj⟩
    by_cases q : P' = P
    · subst q
      exact ⟨ps',upd_same,hG _ (.inr ⟨k',q',e,rfl⟩)⟩
    · exact c.tb.keep (fun _ _ h=>h) (hne q)
theorem tab_evo {W0 : Wd} {H0 : Hp} {o : HO} (ev : Evo W0 H0 W H) (ow : W.own P=some .tab) (hP : H P≠none) : Evo W0 H0 W (upd H P o):=by
 refine ⟨ev.le,fun p o' hp z n=>?_,ev.thaw,ev.asn,ev.hold,fun p q=>?_,ev.zih,ev.zown⟩
 ·obtain ⟨h1,h2⟩:=ev.stay p o' hp z n
  exact ⟨by rw [upd_ne (fun e=>by rw [e,ow] at h2; cases h2)]; exact h1,h2⟩
 ·by_cases e : p=P
  ·rw [e,upd_same] at q; cases q
  ·rw [upd_ne e] at q; exact ev.dom p q
theorem new_R {o : HO} (r : R G W H N ec fr σ h) (hf : H f=none) (nf : ∀ od v,o≠.frz od v) : R G (W.fix (upd H f o) f) (upd H f o) N ec fr σ h∧Evo W H (W.fix (upd H f o) f) (upd H f o)∧Wup W (W.fix (upd H f o) f)∧(W.fix (upd H f o) f).Z f=some o:=by
 have n:=(WH.of r).new hf
 have r1:=R.ext (Ext.upd (o:=o) hf) r
 exact ⟨zrk n.1 n.2 (fun u od v e=>by rw [upd_same] at e; cases e; exact nf od v) r1,zgu n.1 hf (Evo.ext (Ext.upd hf)),zdE n.1,zo0 upd_same⟩
noncomputable def Wd.code (W : Wd) (k P2 : Addr) (q : Str) : Wd:={ W with Z:=fun b=>if b=k then some (zen k q P2) else W.Z b,own:=fun b=>if b=P2 then some .tab else W.own b,ct:=fun c=>if c=k then some (P2,q) else W.ct c }
theorem code_R {q : Str} {P2 : Addr} (r : R G W H N ec fr σ h) (hk : H k=none) (h2 : H P2=none) (ne : k≠P2) :
    R G (W.code k P2 q) (upd (upd H P2 (.tbl #[])) k (zen k q P2)) N ec fr σ h∧Evo W H (W.code k P2 q) (upd (upd H P2 (.tbl #[])) k (zen k q P2))∧(W.code k P2 q).ct k=some (P2,q):=by
  obtain ⟨zk,ok⟩:=(WH.of r).new hk
  obtain ⟨z2,o2⟩:=(WH.of r).new h2
  have ck : ∀ x,W.ct k≠some x:=fun ⟨P',q'⟩ e=>by
    have:=(r.h.x.ct k P' q' e).z
    rw [zk] at this; cases this
  have ext : Ext H (upd (upd H P2 (.tbl #[])) k (zen k q P2)):=(Ext.upd h2).trans (Ext.upd (by rw [upd_ne ne]; exact hk))
  have Zo : ∀ {p},p≠k→(W.code k P2 q).Z p=W.Z p:=fun e=>if_neg e
  have Zk : (W.code k P2 q).Z k=some (zen k q P2):=if_pos rfl
  have Oo : ∀ {p},p≠P2→(W.code k P2 q).own p=W.own p:=fun e=>if_neg e
  have O2 : (W.code k P2 q).own P2=some .tab:=if_pos rfl
  have Co : ∀ {p},p≠k→(W.code k P2 q).ct p=W.ct p:=fun e=>if_neg e
  have Ck : (W.code k P2 q).ct k=some (P2,q):=if_pos rfl
  have nZ : ∀ {p o},W.Z p=some o→p≠k:=fun e z=>by rw [z,zk] at e; cases e
  have le : Wle W (W.code k P2 q):=⟨fun p o e=>(Zo (nZ e)).trans e,fun _ _ h=>h,fun _ _ h=>h,fun _ _ h=>h,fun _ _ _ h=>h,fun _ _=>Iff.rfl,fun c x e=>(Co (fun z=>ck x (by rw [← z]; exact e))).trans e⟩
  have own_ne : ∀ {p o},W.own p=some o→p≠P2:=fun h e=>by rw [e,o2] at h; cases h
  have keep : ∀ {p o},W.own p=some o→(W.code k P2 q).own p=some o:=fun h=>(Oo (own_ne h)).trans h
  have inv : ∀ {p a f},(W.code k P2 q).own p=some (.fld a f)→W.own p=some (.fld a f):=fun {p a f} h=>by
    by_cases e : p=P2
    · subst e; rw [O2] at h; cases h
    · rw [Oo e] at h; exact h
  have rx:=R.ext ext r
  refine ⟨⟨⟨rx.f.len,fun i s hs=>?_,rx.f.inj⟩,⟨fun p o hq=>?_,fun p od e=>?_,fun p o hq=>?_,fun p p' a f h1 h2=>rx.h.uni p p' a f (inv h1) (inv h2),fun p a f h1=>rx.h.oas p a f (inv h1),rx.h.asn,rx.h.lι,rx.h.lk,fun n' o ho=>?_,fun c v e=>?_,⟨fun P nm e=>?_,rx.h.x.ki,rx.h.x.kt,fun k' P' q' e=>?_⟩⟩,zpx le rx.kk⟩,⟨le,fun p o hp z n=>⟨ext p o hp,?_⟩,fun p o hp z n=>?_,fun _ _ h=>h,fun a f p _ e=>inv e,ext.dom,fun p o r1 r2 hp a b=>?_,fun p o z n=>?_⟩,Ck⟩
  · have c:=rx.f.at_ i s hs
    cases s with
    | un=>trivial
    | val v=>obtain ⟨x,a,b⟩:=c; exact ⟨x,a,b.le le⟩
    | own v=>obtain ⟨p,a,b,k⟩:=c; exact ⟨p,a,keep b,k.up le⟩
    | own2 v =>
      obtain ⟨p,a,b,k⟩:=c
      refine ⟨p,a,keep b,?_⟩
      cases v with
      | lst l =>
        obtain ⟨qs,h1,h2,h3⟩:=k
        exact ⟨qs,h1,h2,Paired.imp2 (fun _ p z=>⟨keep z.1,z.2.up le⟩) h3⟩
      | _=>exact k
    | cell c'=>exact c
    | exc c' v=>obtain ⟨x,a,b⟩:=c; exact ⟨x,a,b.le le⟩
  · by_cases e : p=k
    · subst e
      rw [Zk] at hq; cases hq
      exact ⟨.inl upd_same,(Oo ne).trans ok,fun _ _ z=>HO.noConfusion z,fun _ z=>HO.noConfusion z⟩
    · rw [Zo e] at hq
      have k':=rx.h.zin p o hq
      exact ⟨k'.rd,(Oo (fun z=>by rw [z,z2] at hq; cases hq)).trans k'.no,k'.nf,k'.ls⟩
  · obtain ⟨u,h1,h2⟩:=rx.h.fin p od e
    exact ⟨u,le.Z _ _ h1,h2⟩
  · by_cases e : p=P2
    · rw [e,upd_ne ne.symm,upd_same]; exact nofun
    · rw [Oo e] at hq; exact rx.h.oin p o hq
  · obtain ⟨p,h1,h2,h3⟩:=rx.h.objs n' o ho
    refine ⟨p,h1,keep h2,?_⟩
    cases o with
    | inst c' fs =>
      obtain ⟨C',dx,vs,hC,hp',hf,hr',hl⟩:=h3
      refine ⟨C',dx,vs,hC,hp',fun g s q=>?_,hr',hl⟩
      have k:=hf g s q
      cases s with
      | val v=>obtain ⟨x,a,b⟩:=k; exact ⟨x,a,b.le le⟩
      | own v=>obtain ⟨p,a,b,k⟩:=k; exact ⟨p,a,keep b,k.up le⟩
      | _=>exact k
    | hl l=>exact Cur.up (v:=.lst l) le h3
    | hd l=>exact Cur.up (v:=.dct l) le h3
  · rcases rx.h.cells c v e with ⟨i,x,h1,h2,h3⟩ | ⟨h1,a,x,u,h2,h3,h4,h5⟩
    · exact .inl ⟨i,x,h1,h2,h3.le le⟩
    · exact .inr ⟨h1,a,x,u,h2,h3,h4,h5.le le⟩
  · obtain ⟨o,t⟩:=rx.h.x.tab P nm e
    exact ⟨keep o,t.mv le.ct fun _ h=>h⟩
  · by_cases ek : k' = k
    · subst ek
      rw [Ck] at e; cases e
      refine ⟨Zk,O2,?_,⟨#[],by rw [upd_ne ne.symm,upd_same],trivial,fun pos cv z=>by cases z⟩,fun k2 q2 e2=>?_⟩
      · cases t : G.tab P2 with
        | none=>rfl
        | some nm =>
          obtain ⟨_,ps,z,_⟩:=r.h.x.tab P2 nm t
          rw [h2] at z; cases z
      · by_cases e3 : k2=k'
        · exact e3
        · rw [Co e3] at e2
          have:=(r.h.x.ct k2 P2 q2 e2).ow
          rw [o2] at this; cases this
    · rw [Co ek] at e
      have c:=rx.h.x.ct k' P' q' e
      refine ⟨le.Z _ _ c.z,keep c.ow,c.nt,c.tb.mv le.ct fun _ h=>h,fun k2 q2 e2=>?_⟩
      by_cases e3 : k2=k
      · subst e3
        rw [Ck] at e2; cases e2
        have:=c.ow
        rw [o2] at this; cases this
      · rw [Co e3] at e2
        exact c.inj k2 q2 e2
  · exact (Oo (fun e=>by rw [e,h2] at hp; cases hp)).trans n
  · exact (Zo (fun e=>by rw [e,hk] at hp; cases hp)).trans z
  · rw [Oo (fun e=>by rw [e,h2] at hp; cases hp),a] at b; cases b; rfl
  · exact (Oo (fun e=>by rw [e,z2] at z; cases z)).trans n
theorem lam_R {E : Hp→Prop} {σ' : L2.St} {Q : VK} (r : R G W H N ec fr σ h) {nm : Nat→Nat→Str} (hE : E H) (hT : G.tab P=some nm∨∃ k q,W.ct k=some (P,q)∧nm=inQ q) (hn : nm lpos.line lpos.col=D.qual)
  (q : ∀ W1 f k H1,Evo W H W1 H1→R G W1 H1 N ec fr σ h→W1.Z f=some (zdl D f as k)→(∃ P2,W1.ct k=some (P2,D.qual))→Q (.ref f) H1) : tLam E D P lpos as σ' H Q:=by
 obtain ⟨ow,ps,hP,ht,htab⟩ : W.own P=some .tab∧zog W H P nm:=by
  rcases hT with e | ⟨k,q,e,rfl⟩
  ·exact r.h.x.tab P nm e
  ·have c:=r.h.x.ct k P q e
   exact ⟨c.ow,c.tb⟩
 refine ⟨hE,ps,hP,ht,fun cv hc=>?_,fun hc k P2 f hk h2 hf ne ne2 nk2=>?_⟩
 ·obtain ⟨k,P2,rfl,hk⟩:=htab lpos cv hc
  rw [hn] at hk
  refine ⟨k,rfl,fun f hf=>?_⟩
  obtain ⟨r1,ev,up,z⟩:=new_R (o:=zdl D f as k) r hf (fun _ _=>nofun)
  exact q _ f k _ ev r1 z ⟨P2,up.le.ct _ _ hk⟩
 ·have nP : P≠k:=fun e=>by rw [e,hk] at hP; cases hP
  have nP2 : P≠P2:=fun e=>by rw [e,h2] at hP; cases hP
  obtain ⟨r1,ev1,zk⟩:=code_R (q:=D.qual) r hk h2 nk2
  have hP1 : upd (upd H P2 (.tbl #[])) k (zen k D.qual P2) P=some (.tbl ps):=by rw [upd_ne nP,upd_ne nP2]; exact hP
  have ow1 : (W.code k P2 D.qual).own P=some .tab:=(if_neg nP2).trans ow
  have hT1 : ∀ nm',(G.tab P=some nm'∨∃ k' q',(W.code k P2 D.qual).ct k' = some (P,q')∧nm' = inQ q')→nm' = nm:=fun nm' e=>by
   rcases e with e | ⟨k',q',e,rfl⟩
   ·rcases hT with z | ⟨k3,q3,z,rfl⟩
    ·rw [z] at e; cases e; rfl
    ·have:=(r.h.x.ct k3 P q3 z).nt
     rw [this] at e; cases e
   ·have c:=r1.h.x.ct k' P q' e
    rcases hT with z | ⟨k3,q3,z,rfl⟩
    ·rw [c.nt] at z; cases z
    ·have z1:=ev1.le.ct _ _ z
     have ek:=c.inj k3 q3 z1
     subst ek
     rw [e] at z1; cases z1; rfl
  have r2:=tab_R (ps':=ps ++ #[rawInt lpos.line,rawInt lpos.col,.ref k]) r1 hP1 ow1 (fun nm' e=>by
   obtain rfl:=hT1 nm' e
   refine ⟨by rw [Array.toList_append]; exact TriplesOk_snoc _ _ _ _ ht,fun pos cv hcv=>?_⟩
   rw [Array.toList_append] at hcv
   rcases NdefX.among_app2 ps.toList ht hcv with z | ⟨z,z1,z2⟩
   ·obtain ⟨c,P3,e,k'⟩:=htab pos cv z
    exact ⟨c,P3,e,ev1.le.ct _ _ k'⟩
   ·refine ⟨k,P2,z,?_⟩
    rw [← z1,← z2,hn]; exact zk)
  have ev2:=tab_evo (o:=.tbl (ps ++ #[rawInt lpos.line,rawInt lpos.col,.ref k])) ev1 ow1 (by rw [hP1]; exact nofun)
  have eH : upd (upd (upd H P2 (.tbl #[])) k (zen k D.qual P2)) P (.tbl (ps ++ #[rawInt lpos.line,rawInt lpos.col,.ref k]))=upd (upd (upd H P (.tbl (ps ++ #[rawInt lpos.line,rawInt lpos.col,.ref k]))) P2 (.tbl #[])) k (zen k D.qual P2):=by
   funext b
   by_cases e1 : b=P
   ·subst e1; rw [upd_same,upd_ne nP,upd_ne nP2,upd_same]
   ·rw [upd_ne e1]
    by_cases e2 : b=k
    ·subst e2; rw [upd_same,upd_same]
    ·rw [upd_ne e2,upd_ne e2]
     by_cases e3 : b=P2
     ·subst e3; rw [upd_same,upd_same]
     ·rw [upd_ne e3,upd_ne e3,upd_ne e1]
  rw [eH] at r2 ev2
  have hf2 : upd (upd (upd H P (.tbl (ps ++ #[rawInt lpos.line,rawInt lpos.col,.ref k]))) P2 (.tbl #[])) k (zen k D.qual P2) f=none:=by
   rw [upd_ne ne,upd_ne ne2,upd_ne (fun e=>by rw [e,hP] at hf; cases hf)]; exact hf
  obtain ⟨r3,ev3,up3,zf⟩:=new_R (o:=zdl D f as k) r2 hf2 (fun _ _=>nofun)
  exact q _ f k _ (ev2.trans ev3) r3 zf ⟨P2,up3.le.ct _ _ zk⟩
end
end Fx
end
section
set_option maxHeartbeats 4000000
namespace Fx
open PySem PySem.Spec PyProof.Rows L2 LamX
theorem ziR {σ : Fr} : ∀ {caps cs : List Nat},cellsOf σ caps=some cs→cs.length=caps.length∧∀ (j : Nat) i,caps[j]? = some i→∃ c,cs[j]? = some c∧σ[i]? = some (.cell c)
 | [],cs,e=>by simp only [cellsOf] at e; cases e; exact ⟨rfl,fun j i z=>by simp at z⟩
 | i :: r,cs,e=>by
  unfold cellsOf at e
  cases q : σ[i]? with
  | none=>rw [q] at e; cases e
  | some s =>
   rw [q] at e
   cases s with
   | cell c =>
    cases q2 : cellsOf σ r with
    | none=>simp only [q2] at e; cases e
    | some cs' =>
     simp only [q2] at e; cases e
     obtain ⟨h1,h2⟩:=ziR q2
     refine ⟨by simp [h1],fun j k z=>?_⟩
     cases j with
     | zero=>simp at z; subst z; exact ⟨c,rfl,q⟩
     | succ j=>obtain ⟨c',a,b⟩:=h2 j k (by simpa using z); exact ⟨c',by simpa using a,b⟩
   | _=>cases e
def Wd.more (W : Wd) (aA : List Addr) : Wd:={ W with κ:=W.κ ++ aA,dd:=fun c=>c < W.κ.length∧W.dd c }
section
variable {G : Glb} {W : Wd} {H : Hp} {aA : List Addr} {vs : List V} {S : Cells} {h h' : MH} {ss : List Slot}
theorem more_le : Wle W (W.more aA):=⟨fun _ _ h=>h,fun _ _ h=>h,fun _ _ h=>h,fun a p e=>by
 show (W.κ ++ aA)[a]? = some p
 rw [List.getElem?_append_left (List.getElem?_eq_some_iff.mp e).1]; exact e,fun _ _ _ h=>h,fun c l=>⟨fun z=>z.2,fun z=>⟨l,z⟩⟩,fun _ _ h=>h⟩
end
end Fx
end
section
set_option maxHeartbeats 4000000
namespace Fx
open PySem PySem.Spec PyProof.Rows L2 LamX
def zjm (m : Nat) (cs : List Nat) (as : List Addr) (kq : Option (Addr × Str)) : Cm:=⟨fun i=>if m≤i then cs[i - m]? else none,fun i=>if m≤i then as[i - m]? else none,none,kq⟩
theorem znN {m i c : Nat} {cs : List Nat} {as : List Addr} {kq : Option (Addr × Str)} (e : (zjm m cs as kq).c i=some c) : m≤i∧cs[i - m]? = some c:=by
 have e : (if m≤i then cs[i - m]? else none)=some c:=e
 by_cases q : m≤i
 ·rw [if_pos q] at e; exact ⟨q,e⟩
 ·rw [if_neg q] at e; cases e
theorem lamCm_a {m i : Nat} {a : Addr} {cs : List Nat} {as : List Addr} {kq : Option (Addr × Str)} (e : (zjm m cs as kq).a i=some a) : m≤i∧as[i - m]? = some a:=by
 have e : (if m≤i then as[i - m]? else none)=some a:=e
 by_cases q : m≤i
 ·rw [if_pos q] at e; exact ⟨q,e⟩
 ·rw [if_neg q] at e; cases e
structure zrv (G : Glb) (W : Wd) (H : Hp) (h : MH) (cs : List Nat) (as : List Addr) (xs : List V) (S : Cells) : Prop where
 at_ : ∀ (j : Nat) c,cs[j]? = some c→∃ v x a u,as[j]? = some a∧h.cells[c]? = some (some v)∧xs[j]? = some x∧W.κ[c]? = some a∧H a=some (zbk a u)∧RelC x u∧Rp G W v x∧S a=some u
 len : xs.length=cs.length
 alen : as.length=cs.length
 of : ∀ b o,S b=some o→b∈as∧H b=some (zbk b o)
 on : ∀ b∈as,∃ o,S b=some o
 nd : as.Nodup
open Classical in
def Wd.cut (W : Wd) (as : List Addr) : Wd:={ W with own:=fun q=>if q∈as then none else W.own q }
section
variable {G : Glb} {W W1 : Wd} {H H2 : Hp} {h h' : MH} {cs : List Nat} {as : List Addr} {xs vs : List V} {S : Cells} {ss : List Slot} {N : List Str} {m : Nat} {fr' : Fr}
theorem zli {q : Addr} {r : zaB} (e : (W.cut as).own q=some r) : q ∉ as∧W.own q=some r:=by
 unfold Wd.cut at e
 dsimp only at e
 by_cases z : q∈as
 ·rw [if_pos z] at e; cases e
 ·rw [if_neg z] at e; exact ⟨z,e⟩
theorem zeI {q : Addr} (z : q ∉ as) : (W.cut as).own q=W.own q:=by
 unfold Wd.cut
 exact if_neg z
theorem zjH {q : Addr} (z : W.own q=none) : (W.cut as).own q=none:=by
 unfold Wd.cut
 dsimp only
 split
 ·rfl
 ·exact z
theorem cut_le : Wle W (W.cut as):=⟨fun _ _ h=>h,fun _ _ h=>h,fun _ _ h=>h,fun _ _ h=>h,fun _ _ _ h=>h,fun _ _=>Iff.rfl,fun _ _ h=>h⟩
theorem zrv.not (L : zrv G W H h cs as xs S) {b : Addr} {u : HO} (e : H b=some u) (hu : ∀ o,u≠zbk b o) : S b=none∧b ∉ as:=by
 have s0 : S b=none:=by
  cases q : S b with
  | none=>rfl
  | some o=>rw [(L.of b o q).2] at e; cases e; exact absurd rfl (hu o)
 refine ⟨s0,fun hb=>?_⟩
 obtain ⟨o,e⟩:=L.on b hb
 rw [s0] at e; cases e
theorem zrv.inj (L : zrv G W H h cs as xs S) {i j c : Nat} (e1 : cs[i]? = some c) (e2 : cs[j]? = some c) : i=j:=by
 obtain ⟨_,_,a,_,a1,_,_,k1,_⟩:=L.at_ i c e1
 obtain ⟨_,_,b,_,a2,_,_,k2,_⟩:=L.at_ j c e2
 rw [k1] at k2; cases k2
 exact (List.getElem?_inj (List.getElem?_eq_some_iff.mp a1).1 L.nd).mp (a1.trans a2.symm)
theorem zjS {j : Nat} {x : V} (hv : vs.length=m) (e : xs[j]? = some x) : (NdefX.startF N vs (xs.map some))[m + j]? = some (some x):=by
 unfold NdefX.startF
 have hj : j < xs.length:=(List.getElem?_eq_some_iff.mp e).1
 have hl : (vs.map some).length=m:=by rw [List.length_map,hv]
 rw [List.getElem?_append_right (by omega),hl,Nat.add_sub_cancel_left,List.getElem?_append_left (by rw [List.length_map]; exact hj),List.getElem?_map,e]; rfl
theorem startF_arg {j : Nat} {x : V} {ws : List (Option V)} (e : vs[j]? = some x) : (NdefX.startF N vs ws)[j]? = some (some x):=by
 unfold NdefX.startF
 rw [List.getElem?_append_left (by rw [List.length_map]; exact (List.getElem?_eq_some_iff.mp e).1),List.getElem?_map,e]; rfl
theorem lam_in (L : zrv G W H h cs as xs S) (hr : HpR G W H [] [] h) (ar : ArgsR G W H ss vs) (hsl : ∀ p j,W.own p=some (.slot j)→j∈([] : List Nat)) (hm : ss.length=m) {k : Nat} (hN : m + (cs.length + k)=N.length) {kq : Option (Addr × Str)} (hkq : ∀ k q,kq=some (k,q)→∃ P,W.ct k=some (P,q)) :
    R G (W.cut as) (hid H S) N (zjm m cs as kq) (ss ++ (cs.map Slot.cell ++ List.replicate k .un)) (NdefX.startF N vs (xs.map some)) h:=by
  have hv : vs.length=m:=by rw [← ar.len,hm]
  have le:=cut_le (W:=W) (as:=as)
  have keep : ∀ {b u},H b=some u→(∀ o,u≠zbk b o)→hid H S b=some u:=fun {b u} e hu=>by rw [zau (L.not e hu).1]; exact e
  have z1 : ∀ i : Nat,i < m→(ss ++ (cs.map Slot.cell ++ List.replicate k Slot.un))[i]? = ss[i]?:=fun i hi=>List.getElem?_append_left (by omega)
  have z2 : ∀ j : Nat,j < cs.length→(ss ++ (cs.map Slot.cell ++ List.replicate k Slot.un))[m + j]? = (cs[j]?).map Slot.cell:=fun j hj=>by
    rw [List.getElem?_append_right (by omega),hm,Nat.add_sub_cancel_left,List.getElem?_append_left (by rw [List.length_map]; exact hj),List.getElem?_map]
  have z3 : ∀ (i : Nat) s,m + cs.length≤i→(ss ++ (cs.map Slot.cell ++ List.replicate k Slot.un))[i]? = some s→s = .un:=fun i s hi e=>by
    rw [List.getElem?_append_right (by omega),List.getElem?_append_right (by rw [List.length_map]; omega),List.getElem?_replicate] at e
    split at e
    · cases e; rfl
    · cases e
  have isC : ∀ (i c : Nat),(ss ++ (cs.map Slot.cell ++ List.replicate k Slot.un))[i]? = some (.cell c)→∃ j,i=m + j∧cs[j]? = some c:=fun i c e=>by
    by_cases hi : i < m
    · rw [z1 i hi] at e
      rcases ar.kind i _ e with ⟨v,z⟩ | ⟨v,z⟩ <;> cases z
    · by_cases hj : i - m < cs.length
      · have e1 : i=m + (i - m):=by omega
        rw [e1,z2 _ hj] at e
        refine ⟨i - m,e1,?_⟩
        cases q : cs[i - m]? with
        | none=>rw [q] at e; cases e
        | some c'=>rw [q] at e; cases e; rfl
      · have:=z3 i _ (by omega) e
        cases this
  have atC : ∀ (j c : Nat),cs[j]? = some c→(ss ++ (cs.map Slot.cell ++ List.replicate k Slot.un))[m + j]? = some (.cell c):=fun j c e=>by
    rw [z2 j (List.getElem?_eq_some_iff.mp e).1,e]; rfl
  have zS : ∀ {p o},W.Z p=some o→S p=none:=fun {p o} z=>by
    have q:=hr.zin p o z
    cases e : S p with
    | none=>rfl
    | some o' =>
      have hp:=(L.of p o' e).2
      rcases q.rd with r | ⟨od,r⟩
      · rw [hp] at r; cases r; exact absurd rfl (q.nf _ _)
      · rw [hp] at r; cases r; exact absurd rfl (q.nf _ _)
  refine ⟨⟨?_,fun i s e=>?_,fun i j c e1 e2=>?_⟩,⟨fun p o z=>⟨?_,zjH (hr.zin p o z).no,(hr.zin p o z).nf,fun vs e=>by rw [zau (zS z)]; exact (hr.zin p o z).ls vs e⟩,fun p od z=>?_,fun p r z=>?_,fun p q a f z z'=>hr.uni p q a f (zli z).2 (zli z').2,fun q a f z=>hr.oas q a f (zli z).2,hr.asn,hr.lι,hr.lk,fun a o ho=>?_,fun c v e=>?_,⟨fun P nm e=>?_,hr.x.ki,fun c a nd e=>?_,fun k P q e=>?_⟩⟩,⟨fun i c e=>?_,fun i c e=>?_,hkq⟩⟩
  · unfold NdefX.startF
    rw [List.length_append,List.length_append,List.length_map,List.length_replicate,List.length_append,List.length_append,List.length_map,List.length_map,List.length_replicate,L.len,hv,hm]
    omega
  · by_cases hi : i < m
    · rw [z1 i hi] at e
      have hx : vs[i]? = some vs[i]:=List.getElem?_eq_getElem (by omega)
      have sv:=ar.at_ i s _ e hx
      rcases ar.kind i s e with ⟨v,rfl⟩ | ⟨v,rfl⟩
      · exact ⟨_,startF_arg hx,Rp.le le sv⟩
      · obtain ⟨p,ep,ow,cu⟩:=sv
        exact absurd (hsl _ _ ow) (by simp)
    · by_cases hj : i - m < cs.length
      · have e1 : i=m + (i - m):=by omega
        have hc : cs[i - m]? = some cs[i - m]:=List.getElem?_eq_getElem hj
        rw [e1,z2 _ hj,hc] at e
        cases e
        show (if m≤i then cs[i - m]? else none)=some _
        rw [if_pos (by omega),hc]
      · have:=z3 i s (by omega) e
        subst this; trivial
  · obtain ⟨a,rfl,h1⟩:=isC i c e1
    obtain ⟨b,rfl,h2⟩:=isC j c e2
    rw [L.inj h1 h2]
  · have q:=(hr.zin p o z).rd
    rcases q with q | ⟨od,q⟩
    · exact .inl (by rw [zau (zS z)]; exact q)
    · exact .inr ⟨od,by rw [zau (zS z)]; exact q⟩
  · obtain ⟨u,h1,h2⟩:=hr.fin p od z
    exact ⟨u,h1,by rw [zau (zS h1)]; exact h2⟩
  · obtain ⟨hp,ow⟩:=zli z
    have s0 : S p=none:=by
      cases q : S p with
      | none=>rfl
      | some o=>exact absurd (L.of p o q).1 hp
    rw [zau s0]
    exact hr.oin p r ow
  · obtain ⟨p,h1,h2,h3⟩:=hr.objs a o ho
    have cu : ∀ {v q},Cur G W H v q→Cur G (W.cut as) (hid H S) v q∧q ∉ as:=fun {v q} c=>by
      cases v with
      | lst l=>obtain ⟨ys,a,b⟩:=c; exact ⟨⟨ys,keep a (fun _=>nofun),b.le le⟩,(L.not a (fun _=>nofun)).2⟩
      | dct l=>obtain ⟨ys,a,b⟩:=c; exact ⟨⟨ys,keep a (fun _ z=>b.nfrz _ _ z),b.le le⟩,(L.not a (fun _ z=>b.nfrz _ _ z)).2⟩
      | _=>exact c.elim
    cases o with
    | inst c' fs =>
      obtain ⟨C',dx,ws,hC,hp,hf,hrr,hl⟩:=h3
      refine ⟨p,h1,by rw [zeI (L.not hp (fun _=>nofun)).2]; exact h2,C',dx,ws,hC,keep hp (fun _=>nofun),fun g s q=>?_,hrr,hl⟩
      have kk:=hf g s q
      cases s with
      | val v=>obtain ⟨x,a,b⟩:=kk; exact ⟨x,a,b.le le⟩
      | own v =>
        obtain ⟨q',a,b,c⟩:=kk
        obtain ⟨c1,c2⟩:=cu c
        exact ⟨q',a,by rw [zeI c2]; exact b,c1⟩
      | _=>exact kk
    | hl l =>
      obtain ⟨c1,c2⟩:=cu (v:=.lst l) h3
      exact ⟨p,h1,by rw [zeI c2]; exact h2,c1⟩
    | hd l =>
      obtain ⟨c1,c2⟩:=cu (v:=.dct l) h3
      exact ⟨p,h1,by rw [zeI c2]; exact h2,c1⟩
  · rcases hr.cells c v e with ⟨i,x,h1,_⟩ | ⟨_,a,x,u,h3,h4,h5,h6⟩
    · simp at h1
    · by_cases hc : ∃ j : Nat,cs[j]? = some c
      · obtain ⟨j,hj⟩:=hc
        obtain ⟨v',x',a',u',_,k2,k3,_,_,_,k7,_⟩:=L.at_ j c hj
        rw [e] at k2; cases k2
        exact .inl ⟨m + j,x',atC j c hj,zjS hv k3,k7.le le⟩
      · have s0 : S a=none:=by
          cases q : S a with
          | none=>rfl
          | some o =>
            obtain ⟨j,hj⟩:=List.mem_iff_getElem?.mp (L.of a o q).1
            have hj' : j < cs.length:=by
              rw [← L.alen]; exact (List.getElem?_eq_some_iff.mp hj).1
            have hcj : cs[j]? = some cs[j]:=List.getElem?_eq_getElem hj'
            obtain ⟨_,_,a',_,k1,kv,_,k4,_⟩:=L.at_ j _ hcj
            rw [hj] at k1; cases k1
            exact absurd ⟨j,by rw [hr.x.ki c _ a (hr.lk.2 _ _ e) (hr.lk.2 _ _ kv) h3 k4]; exact hcj⟩ hc
        refine .inr ⟨fun i z=>?_,a,x,u,h3,by rw [zau s0]; exact h4,h5,h6.le le⟩
        obtain ⟨j,_,hj⟩:=isC i c z
        exact hc ⟨j,hj⟩
  · obtain ⟨o,t⟩:=hr.x.tab P nm e
    have ⟨ps,k1,_⟩:=t
    exact ⟨by rw [zeI (L.not k1 (fun _=>nofun)).2]; exact o,t.mv (fun _ _ h=>h) fun ps k1=>keep k1 (fun _=>nofun)⟩
  · by_cases hc : ∃ j : Nat,cs[j]? = some c
    · obtain ⟨j,hj⟩:=hc
      exact .inl ⟨m + j,atC j c hj⟩
    · rcases hr.x.kt c a nd e with ⟨i,z⟩ | ⟨o,z⟩
      · simp at z
      · have s0 : S a=none:=by
          cases q : S a with
          | none=>rfl
          | some o =>
            obtain ⟨j,hj⟩:=List.mem_iff_getElem?.mp (L.of a o q).1
            have hj' : j < cs.length:=by
              rw [← L.alen]; exact (List.getElem?_eq_some_iff.mp hj).1
            have hcj : cs[j]? = some cs[j]:=List.getElem?_eq_getElem hj'
            obtain ⟨_,_,a',_,k1,kv,_,k4,_⟩:=L.at_ j _ hcj
            rw [hj] at k1; cases k1
            exact absurd ⟨j,by rw [hr.x.ki c _ a nd (hr.lk.2 _ _ kv) e k4]; exact hcj⟩ hc
        exact .inr ⟨o,by rw [zau s0]; exact z⟩
  · have c:=hr.x.ct k P q e
    have ⟨ps,k1,_⟩:=c.tb
    exact c.mv (fun _ _ h=>h) (fun o=>by rw [zeI (L.not k1 (fun _=>nofun)).2]; exact o) (fun ps k1=>keep k1 (fun _=>nofun)) rfl
  · obtain ⟨h1,h2⟩:=znN e
    obtain ⟨_,_,a,_,k1,_,_,k4,_⟩:=L.at_ _ c h2
    exact ⟨a,(if_pos h1).trans k1,k4⟩
  · obtain ⟨h1,h2⟩:=znN e
    obtain ⟨_,_,a,_,k1,kv,_⟩:=L.at_ _ c h2
    exact hr.lk.2 _ _ kv
theorem lam_out {kq : Option (Addr × Str)} (L : zrv G W H h cs as xs S) (hr : HpR G W H [] [] h) (hv : vs.length=m) (ev : Evo (W.cut as) (hid H S) W1 H2) (r : R G W1 H2 N (zjm m cs as kq) fr' (NdefX.startF N vs (xs.map some)) h') (hn : ∀ b o,S b=some o→H2 b=none) :
  HpR G (W1.exit []) (seen H2 S) [] [] h'∧Evo W H (W1.exit []) (seen H2 S):=by
 have ext : Ext H2 (seen H2 S):=fun p o e=>by rw [zai (zhR hn e)]; exact e
 have le:=zd0 (W:=W1) (lent:=[])
 have h1:=HpR.ext ext r.h
 have out : ∀ {b o},S b=some o→W1.Z b=none∧W1.own b=none:=fun {b o} e=>(WH.of r).new (hn b o e)
 have kc : ∀ (i c : Nat),fr'[i]? = some (Slot.cell c)→∃ j x a u,i=m + j∧cs[j]? = some c∧W1.κ[c]? = some a∧S a=some u∧RelC x u∧(NdefX.startF N vs (xs.map some))[i]? = some (some x):=fun i c e=>by
  obtain ⟨e1,e2⟩:=znN (r.f.at_ i _ e)
  obtain ⟨_,x,a,u,k1,_,k3,k4,_,k6,_,k8⟩:=L.at_ _ c e2
  have ei : i=m + (i - m):=by omega
  exact ⟨i - m,x,a,u,ei,e2,ev.le.κ _ _ k4,k8,k6,by rw [ei]; exact zjS hv k3⟩
 refine ⟨⟨fun p o z=>⟨(h1.zin p o z).rd,zcv (h1.zin p o z).no,(h1.zin p o z).nf,(h1.zin p o z).ls⟩,h1.fin,fun p o z=>h1.oin p o (zaK z).1,fun p q a f z z'=>h1.uni p q a f (zaK z).1 (zaK z').1,fun q a f z=>h1.oas q a f (zaK z).1,h1.asn,h1.lι,h1.lk,fun a o ho=>?_,fun c v e=>?_,⟨fun P nm e=>?_,h1.x.ki,fun c a nd e=>?_,fun k P q e=>(h1.x.ct k P q e).mv (fun _ _ h=>h) (fun o=>zbr o (fun _=>nofun) (fun _=>nofun)) (fun _ h=>h) rfl⟩⟩,?_⟩
 ·obtain ⟨p,k1,k2,k3⟩:=h1.objs a o ho
  refine ⟨p,k1,zbr k2 (fun _=>nofun) (fun _=>nofun),?_⟩
  cases o with
  | inst c' fs =>
   obtain ⟨C',dx,vs,hC,hp,hf,hr,hl⟩:=k3
   refine ⟨C',dx,vs,hC,hp,fun g s q=>?_,hr,hl⟩
   have k:=hf g s q
   cases s with
   | val v=>obtain ⟨x,a,b⟩:=k; exact ⟨x,a,b.le le⟩
   | own v=>obtain ⟨p,a,b,k⟩:=k; exact ⟨p,a,zbr b (fun _=>nofun) (fun _=>nofun),k.up le⟩
   | _=>exact k
  | hl l=>exact Cur.up (v:=.lst l) le k3
  | hd l=>exact Cur.up (v:=.dct l) le k3
 ·rcases h1.cells c v e with ⟨i,x,k1,k2,k3⟩ | ⟨_,a,x,u,k3,k4,k5,k6⟩
  ·obtain ⟨j,x',a,u,_,_,q1,q2,q3,q4⟩:=kc i c k1
   rw [q4] at k2; cases k2
   exact .inr ⟨fun i=>by simp,a,_,u,q1,zc2 q2,q3,k3.le le⟩
  ·exact .inr ⟨fun i=>by simp,a,x,u,k3,k4,k5,k6.le le⟩
 ·obtain ⟨o,k⟩:=h1.x.tab P nm e
  exact ⟨zbr o (fun _=>nofun) (fun _=>nofun),k⟩
 ·rcases h1.x.kt c a nd e with ⟨i,z⟩ | z
  ·obtain ⟨j,x',a',u,_,_,q1,q2,_⟩:=kc i c z
   have e : W1.κ[c]? = some a:=e
   rw [e] at q1; cases q1
   exact .inr ⟨u,zc2 q2⟩
  ·exact .inr z
 ·have sp : ∀ p o,H p=some o→S p=none→p ∉ as:=fun p o _ s hp=>by
   obtain ⟨o',e⟩:=L.on p hp
   rw [s] at e; cases e
  refine ⟨⟨fun p o z=>ev.le.Z p o z,fun p o z=>ev.le.F p o z,fun a p z=>ev.le.ι a p z,fun a p z=>ev.le.κ a p z,fun p vs z f=>ev.le.L p vs z f,fun c l=>ev.le.dd c l,fun k x e=>ev.le.ct k x e⟩,fun p o hp z n=>?_,fun p o hp z n=>?_,ev.asn,fun a f q hq o=>?_,fun p e=>?_,fun p o r r' hp a b=>?_,fun p o z n=>?_⟩
  ·cases q : S p with
   | some o' =>
    rw [(L.of p o' q).2] at hp; cases hp
    exact ⟨zc2 q,zcv (out q).2⟩
   | none =>
    obtain ⟨k1,k2⟩:=ev.stay p o (by rw [zau q]; exact hp) z (zjH n)
    exact ⟨ext _ _ k1,zcv k2⟩
  ·cases q : S p with
   | some o'=>exact (out q).1
   | none=>exact ev.thaw p o (by rw [zau q]; exact hp) z (zjH n)
  ·exact (zli (ev.hold a f q hq (zaK o).1)).2
  ·have s0 : S p=none:=by
    cases q : S p with
    | none=>rfl
    | some o=>rw [zc2 q] at e; cases e
   rw [zai s0] at e
   have:=ev.dom p e
   rw [zau s0] at this
   exact this
  ·cases q : S p with
   | some o' =>
    have b:=(zaK b).1
    rw [(out q).2] at b; cases b
   | none=>exact ev.zih p o r r' (by rw [zau q]; exact hp) (by rw [zeI (sp p o hp q)]; exact a) (zaK b).1
  ·exact zcv (ev.zown p o z (zjH n))
end
end Fx
end
section
set_option maxHeartbeats 4000000
namespace Fx
open PySem PySem.Spec PyProof.Rows L2 LamX
def zhh (l : Nat) (as : List Addr) (kc : Addr) (q : Str) : Wd→Tgt→Prop:=fun W t=>∃ cs,t = .lam l cs∧(cs.map fun c=>W.κ[c]?)=as.map some∧∃ P2,W.ct kc=some (P2,q)
theorem codeRd_at {P : Program} {w : World} {H : Hp} {h : Heap} {c : Addr} {q : Str} (x : HOk P w H h) (r : ∃ P2,Rd H c (zen c q P2)) : h.CodeRec (.ref c) q:=by
 obtain ⟨P2,r⟩:=r
 exact (codeN_at x r).1
structure zhu (P : Program) (w : World) (K : PySem.W.Frag) (mg : Str→Option Value) (base : Heap) (k : Nat) (D : LamD) (sp : List Addr→Addr→Sp) : Prop where
 run : ∀ (A : Around) (outer : List Env) (s : Shared) (H : Hp) (f kc : Addr) (as : List Addr) (us : List Value) (vs : List V) (Q : VK) (E : XK),Room k A→Env0 P w K mg base A outer s H→Rd H f (zdl D f as kc)→(∃ P2,Rd H kc (zen kc D.qual P2))→Vals vs us→sp as kc vs H Q E →
  codeAny (model P w) A (.call (.ref f) ⟨us,[]⟩) (CR (L2.CX P w) outer P w H s Q E) s
def LamD.nf (D : LamD) (cl : List (Str × Addr)) (kc : Addr) : NdefX.NF:=⟨"<lambda>",D.qual,D.params,[],D.scope,cl,kc⟩
theorem list_of {α β : Type} {F : Nat→α→β→Prop} : ∀ (l : List α),(∀ (j : Nat) a,l[j]? = some a→∃ b,F j a b)→∃ m : List β,m.length=l.length∧∀ (j : Nat) a b,l[j]? = some a→m[j]? = some b→F j a b
 | [],_=>⟨[],rfl,fun j a b e=>by simp at e⟩
 | a :: l,h=>by
  obtain ⟨b,hb⟩:=h 0 a rfl
  obtain ⟨m,hm,h2⟩:=list_of (F:=fun j=>F (j + 1)) l fun j x e=>h (j + 1) x (by simpa using e)
  refine ⟨b :: m,by simp [hm],fun j x y e1 e2=>?_⟩
  cases j with
  | zero=>simp at e1 e2; subst e1; subst e2; exact hb
  | succ j=>exact h2 j x y (by simpa using e1) (by simpa using e2)
theorem isSet_some {h : MH} {c : Nat} (e : isSet h c=true) : ∃ v,h.cells[c]? = some (some v):=by
 unfold isSet at e
 split at e
 ·rename_i v q; exact ⟨v,q⟩
 ·cases e
theorem caps_at {W : Wd} {cs : List Nat} {as : List Addr} (h : (cs.map fun c=>W.κ[c]?)=as.map some) : as.length=cs.length∧∀ (j : Nat) c,cs[j]? = some c→∃ a,as[j]? = some a∧W.κ[c]? = some a:=by
 refine ⟨by have:=congrArg List.length h; simpa using this.symm,fun j c e=>?_⟩
 have:=congrArg (fun z=>z[j]?) h
 simp only [List.getElem?_map,e] at this
 cases q : as[j]? with
 | none=>rw [q] at this; cases this
 | some a=>rw [q] at this; exact ⟨a,rfl,Option.some.inj this⟩
theorem kill_lam {kq : Option (Addr × Str)} {d : Def} {fr : Fr} {h : MH} {m : Nat} {cs : List Nat} {as : List Addr} (hp : d.params=m) (hc : d.caps=cs.length) (hcm : ∀ (i c : Nat),fr[i]? = some (Slot.cell c)→(zjm m cs as kq).c i=some c) : zfZ d fr h=h:=by
 have no : ∀ (i c : Nat),fr[i]? = some (Slot.cell c)→m≤i∧i - m < cs.length:=fun i c e=>by
  obtain ⟨h1,h2⟩:=znN (hcm i c e)
  exact ⟨h1,(List.getElem?_eq_some_iff.mp h2).1⟩
 unfold zfZ
 split
 ·rfl
 ·rw [zlf _ _ fun c z=>?_]
  rcases List.mem_append.mp z with z | z
  ·obtain ⟨i,hi⟩:=List.mem_iff_getElem?.mp z
   rw [List.getElem?_take] at hi
   split at hi
   ·have:=no i c hi; omega
   ·cases hi
  ·obtain ⟨i,hi⟩:=List.mem_iff_getElem?.mp z
   rw [List.getElem?_drop] at hi
   have:=no _ c hi
   omega
theorem lam_okN {P : Program} {w : World} {K : PySem.W.Frag} {mg : Str→Option Value} {base : Heap} {T : Tb} {TT : Tbl} {n k l : Nat} {d : Def} {D : LamD} {N ps : List Str} {G : Glb} {e : Exp} (hG : G = ⟨P,w,K,T.fnA,T.clsA,T.fldN,T.lamO,T.lamQ,T.tab,T.exV⟩) (ok : ExOk T) (S : NdefX.NScope N ps D.fr D.scope)
  (hb : ∀ (pm ctv : Value) (kc : Addr) (cl : List (Str × Addr)) (us : List Value),us.length=ps.length→bindArgs (PySem.W.kla_fn "<lambda>" D.qual D.params D.body D.scope cl pm (.ref kc) ctv) ⟨us,[]⟩ = pure (ps.zip us))
  (hd : TT.lams l=some d) (hp : d.params=ps.length) (hs : d.slots=N.length) (hc : d.caps=D.fr.length) (h1 : d.za1 = []) (h2 : d.cells = []) (hbd : d.body = .cons (.ret e) .nil)
  (hbody : ∀ (A : Around) (outer : List Env) (s : Shared) (H : Hp) (E : XK) (f kc : Addr) (cl : List (Str × Addr)) (cs : List Nat) (as : List Addr),Room k (A.deeper (NdefX.envF (D.nf cl kc) f s.heap.objs.size))→(∀ j,j < D.fr.length→∃ a,as[j]? = some a) →
   CmOk (NdefX.ncx (L2.CX P w) P w K mg base N (D.nf cl kc) f A outer s H E) { T with cm:=zjm ps.length cs as (some (kc,D.qual)) } →
   SE (NdefX.ncx (L2.CX P w) P w K mg base N (D.nf cl kc) f A outer s H E) { T with cm:=zjm ps.length cs as (some (kc,D.qual)) } (WE' E) TT (call TT n) false D.body e) :
  zhu P w K mg base (k + 1) D (fun as kc=>zcF G T.ExR (call TT (n + 1)) (zhh l as kc D.qual) false []):=by
 subst hG
 let G : Glb:=⟨P,w,K,T.fnA,T.clsA,T.fldN,T.lamO,T.lamQ,T.tab,T.exV⟩
 refine ⟨fun A outer s H f kc as us vs Q E hr e0 hf hk r hsp=>?_⟩
 obtain ⟨W,ss,h,t,⟨cs,rfl,hcs,hct⟩,hR,ar,hsl,hsb,m⟩:=hsp
 simp only [call,hd] at m
 obtain ⟨alen,hκ⟩:=caps_at hcs
 obtain ⟨cl,pm,ctv,ho,C⟩:=rd_ext e0.hok hf
 by_cases hen : ss.length=d.params∧cs.length=d.caps∧cs.all (isSet h)=true
 case neg=>rw [show enter d ss cs h=none from if_neg hen] at m; exact m.elim
 have hent : enter d ss cs h=some (ss ++ (cs.map Slot.cell ++ List.replicate (d.slots - d.params - d.caps) .un),h):=by
  unfold enter
  rw [if_pos hen,h1,h2]; rfl
 rw [hent] at m
 obtain ⟨n1,n2,n3⟩:=hen
 have hl : vs.length=ps.length:=by rw [← ar.len,n1,hp]
 have ndF : D.fr.Nodup:=by
  have q:=S.nd.sublist (List.take_sublist (ps.length + D.fr.length) N)
  rw [S.pre] at q
  exact (List.nodup_append.mp q).2.1
 have nda : as.Nodup:=by
  refine List.pairwise_iff_getElem.mpr fun i j hi hj hij e'=>?_
  have hi' : as[i]? = some as[i]:=List.getElem?_eq_getElem hi
  have hj' : as[j]? = some as[i]:=by rw [e']; exact List.getElem?_eq_getElem hj
  have fi : D.fr[i]? = some (D.fr[i]'(by rw [← C.len]; omega)):=List.getElem?_eq_getElem _
  have fj : D.fr[j]? = some (D.fr[j]'(by rw [← C.len]; omega)):=List.getElem?_eq_getElem _
  have c1:=(C.at_ i _ fi).trans hi'
  have c2:=(C.at_ j _ fj).trans hj'
  have:=C.inj _ _ _ c1 c2
  have:=(List.getElem?_inj (List.getElem?_eq_some_iff.mp fi).1 ndF).mp (fi.trans (by rw [this]; exact fj.symm))
  omega
 obtain ⟨xs,xl,hxs⟩:=list_of (F:=fun j c x=>∃ v a u,as[j]? = some a∧h.cells[c]? = some (some v)∧W.κ[c]? = some a∧H a=some (zbk a u)∧RelC x u∧Rp G W v x) cs fun j c e=>by
  obtain ⟨a,a1,a2⟩:=hκ j c e
  obtain ⟨v,hv⟩:=isSet_some (List.all_eq_true.mp n3 c (List.mem_of_getElem? e))
  rcases hR.cells c v hv with ⟨i,x,z,_⟩ | ⟨_,a',x,u,z1,z2,z3,z4⟩
  ·simp at z
  ·rw [a2] at z1; cases z1
   exact ⟨x,v,a,u,a1,hv,a2,z2,z3,z4⟩
 let S' : Cells:=fun b=>if b∈as then s.heap.get? b else none
 have hS1 : ∀ b o,S' b=some o→b∈as∧s.heap.get? b=some o:=fun b o e=>by
  have e : (if b∈as then s.heap.get? b else none)=some o:=e
  by_cases z : b∈as
  ·rw [if_pos z] at e; exact ⟨z,e⟩
  ·rw [if_neg z] at e; cases e
 have cellA : ∀ (j : Nat) c,cs[j]? = some c→∃ v x a u,as[j]? = some a∧h.cells[c]? = some (some v)∧xs[j]? = some x∧W.κ[c]? = some a∧H a=some (zbk a u)∧RelC x u∧Rp G W v x∧S' a=some u:=fun j c e=>by
  have hj : j < xs.length:=by rw [xl]; exact (List.getElem?_eq_some_iff.mp e).1
  have hx : xs[j]? = some xs[j]:=List.getElem?_eq_getElem hj
  obtain ⟨v,a,u,k1,k2,k3,k4,k5,k6⟩:=hxs j c _ e hx
  exact ⟨v,_,a,u,k1,k2,hx,k3,k4,k5,k6,(if_pos (List.mem_of_getElem? k1)).trans (zer e0.hok k4)⟩
 have byA : ∀ b∈as,∃ j c,as[j]? = some b∧cs[j]? = some c:=fun b hb=>by
  obtain ⟨j,hj⟩:=List.mem_iff_getElem?.mp hb
  exact ⟨j,_,hj,List.getElem?_eq_getElem (by rw [← alen]; exact (List.getElem?_eq_some_iff.mp hj).1)⟩
 have L : zrv G W H h cs as xs S':=by
  refine ⟨cellA,xl,alen,fun b o e=>?_,fun b hb=>?_,nda⟩
  ·obtain ⟨h1,h2⟩:=hS1 b o e
   obtain ⟨j,c,hj,hc'⟩:=byA b h1
   obtain ⟨_,_,a,u,k1,_,_,_,k4,_,_,k7⟩:=cellA j c hc'
   rw [hj] at k1; cases k1
   rw [e] at k7; cases k7
   exact ⟨h1,k4⟩
  ·obtain ⟨j,c,hj,hc'⟩:=byA b hb
   obtain ⟨_,_,a,u,k1,_,_,_,k4,_,_,k7⟩:=cellA j c hc'
   rw [hj] at k1; cases k1
   exact ⟨u,k7⟩
 have hS : ∀ b o,S' b=some o→H b=some (zbk b o):=fun b o e=>(L.of b o e).2
 have noS : ∀ b,H b=none→S' b=none:=fun b n=>by
  cases q : S' b with
  | none=>rfl
  | some o=>rw [hS b o q] at n; cases n
 have hfr : ∀ b∈frs outer,S' b=none:=fun b hb=>noS b (e0.frf b hb)
 have e1 : Env0 P w K mg base A outer s (hid H S'):=⟨e0.frames,e0.mod,fun b o z=>⟨(e0.bs b o z).1,by rw [zau (noS b (e0.bs b o z).2)]; exact (e0.bs b o z).2⟩,e0.bsz,e0.funs,fun b hb=>by rw [zau (hfr b hb)]; exact e0.frf b hb,hidOk e0.hok hS,e0.bare⟩
 have CA : NdefX.CellsAt (D.nf cl kc).cl D.fr (xs.map some) s.heap (hid H S'):=by
  have cell : ∀ (j : Nat) y,D.fr[j]? = some y→∃ a x u,cl.lookup y=some a∧xs[j]? = some x∧S' a=some u∧RelC x u∧s.heap.get? a=some u:=fun j y e=>by
   have hj : j < cs.length:=by rw [← alen,C.len]; exact (List.getElem?_eq_some_iff.mp e).1
   obtain ⟨_,x,a,u,k1,_,k3,_,_,k6,_,k8⟩:=cellA j _ (List.getElem?_eq_getElem hj)
   exact ⟨a,x,u,(C.at_ j y e).trans k1,k3,k8,k6,(hS1 a u k8).2⟩
  refine ⟨by rw [List.length_map,xl,← alen,C.len],fun y c e=>?_,C.inj,fun i y e=>?_⟩
  ·obtain ⟨j,hj⟩:=List.mem_iff_getElem?.mp (C.of y c e)
   obtain ⟨a,x,u,k1,k2,k3,⟨u',k4,_⟩,k5⟩:=cell j y hj
   have e : cl.lookup y=some c:=e
   rw [k1] at e; cases e
   exact ⟨zhk k3,some u',u,k5,k4⟩
  ·obtain ⟨a,x,u,k1,k2,k3,⟨u',k4,k6⟩,k5⟩:=cell i y e
   refine ⟨a,k1,fun v ev=>?_⟩
   rw [List.getElem?_map,k2] at ev
   cases ev
   exact ⟨u',k6,u,k5,k4⟩
 have lim : s.heap.NoLimit:=e0.mod.nolimit.keeps fun b o e=>(e0.bs b o e).1
 refine PySem.W.kla_callFunE hr.depth ho rfl S.co S.gen rfl (codeRd_at e0.hok hk) ?_
 rw [hb pm ctv kc cl us (by rw [← r.length]; exact hl)]
 refine wpAny_pure (wpAny_newFunctionEnv S.nocell (fun ⟨n,_⟩ hy=>S.par n (List.of_mem_zip hy).1) (fun h₁ hns hsb=>⟨lim.fresh _ hsb,?_⟩) S.kind)
 show codeAny _ _ (.expr D.body (NdefX.envF (D.nf cl kc) f s.heap.objs.size)) _ _
 refine PySem.W.kla_codeExpr ?_
 have kp : ∀ b o,s.heap.get? b=some o→h₁.get? b=some o:=fun b o e=>hsb.extBut b o (Nat.ne_of_lt (Heap.lt_size e)) (Heap.get?_push_of_some _ e)
 let E' : XK:=fun cls d H2=>(∀ b o,S' b=some o→H2 b=none)→E cls d (seen H2 S')
 let Q' : VK:=fun v H2=>(∀ b o,S' b=some o→H2 b=none)→Q v (seen H2 S')
 have I : Inv (NdefX.ncx (L2.CX P w) P w K mg base N (D.nf cl kc) f A outer s (hid H S') E') [] (NdefX.startF N vs (xs.map some)) (hid H S') { s with heap:=h₁,toks:=s.toks + (ps.zip us).length }:=NdefX.inv_startN (F:=D.nf cl kc) S hr.hd e1 hl r CA hns kp
 have hNl : ps.length + (cs.length + (d.slots - d.params - d.caps))=N.length:=by
  have hpl : ps.length + D.fr.length≤N.length:=by
   have q:=congrArg List.length S.pre
   rw [List.length_take,List.length_append] at q
   omega
  omega
 have rx:=lam_in (N:=N) L hR ar hsl (n1.trans hp) hNl (kq:=some (kc,D.qual)) (fun k q e=>by cases e; exact hct)
 have cm : CmOk (NdefX.ncx (L2.CX P w) P w K mg base N (D.nf cl kc) f A outer s (hid H S') E') { T with cm:=zjm ps.length cs as (some (kc,D.qual)) }:=by
  refine ⟨fun i a e=>?_⟩
  obtain ⟨i1,i2⟩:=lamCm_a e
  have hj : i - ps.length < D.fr.length:=by rw [← C.len]; exact (List.getElem?_eq_some_iff.mp i2).1
  have hy : D.fr[i - ps.length]? = some D.fr[i - ps.length]:=List.getElem?_eq_getElem hj
  have hN : N[i]? = some D.fr[i - ps.length]:=by
   have : (N.take (ps.length + D.fr.length))[i]? = N[i]?:=List.getElem?_take_of_lt (by omega)
   rw [← this,S.pre,List.getElem?_append_right i1]; exact hy
  obtain ⟨j,c,q1,q2⟩:=byA a (List.mem_of_getElem? i2)
  obtain ⟨_,_,a',u,k1,_,_,_,k4,_⟩:=cellA j c q2
  rw [q1] at k1; cases k1
  refine ⟨_,hN,(C.at_ _ _ hy).trans i2,.inr (S.frk _ (List.mem_of_getElem? hy)),?_,.inr fun z=>?_⟩
  ·show base.get? a=none
   cases q : base.get? a with
   | none=>rfl
   | some o=>have:=(e0.bs a o q).2; rw [k4] at this; cases this
  ·have:=e0.frf a z
   rw [k4] at this; cases this
 have se:=hbody A outer s (hid H S') E' f kc cl cs as (hr.deeper _) (fun j hj=>⟨_,List.getElem?_eq_getElem (by rw [C.len]; exact hj)⟩) cm
 have vl : vs.length=ps.length:=hl
 have out : ∀ {W1 H2 fr' h'},Evo (W.cut as) (hid H S') W1 H2→R G W1 H2 N (zjm ps.length cs as (some (kc,D.qual))) fr' (NdefX.startF N vs (xs.map some)) h'→(∀ b o,S' b=some o→H2 b=none)→HpR G (W1.exit []) (seen H2 S') [] [] (zfZ d fr' h')∧Evo W H (W1.exit []) (seen H2 S'):=fun {W1 H2 fr' h'} ev r hn=>by
  rw [kill_lam hp (by omega) fun i c e=>r.f.at_ i _ e]
  exact lam_out L hR vl ev r hn
 have tq : tE (NdefX.ncx (L2.CX P w) P w K mg base N (D.nf cl kc) f A outer s (hid H S') E') { T with cm:=zjm ps.length cs as (some (kc,D.qual)) } (WE' E') false (ev TT (call TT n) e) (NdefX.startF N vs (xs.map some)) (hid H S') Q':=by
  refine ⟨W.cut as,_,h,rx,?_⟩
  simp only [hbd,exs,seqS,ex,zaZ] at m
  cases q : ev TT (call TT n) e (ss ++ (cs.map Slot.cell ++ List.replicate (d.slots - d.params - d.caps) .un)) h with
  | stuck=>rw [q] at m; exact m.elim
  | ok v fr' h' =>
   rw [q] at m
   intro W1 x H2 ev r2 rr hn
   obtain ⟨k1,k2⟩:=out ev r2 hn
   exact m (W1.exit []) x (seen H2 S') k2 k1 (fun j hj=>by cases hj) (Rp.le zd0 rr)
  | exn c y fr' h' =>
   rw [q] at m
   intro W1 cls dd H2 ev r2 ex hn
   obtain ⟨k1,k2⟩:=out ev r2 hn
   exact m (W1.exit []) cls dd (seen H2 S') k2 k1 (fun j hj=>by cases hj) (ok _ _ _ _ _ _ _ _ zd0.lo ex)
 refine wpAny_mono (se.run [] _ (NdefX.startF N vs (xs.map some)) (hid H S') Q' I tq) (fun u s' hs=>?_) fun u s' hs=>?_
 ·obtain ⟨v,H1,J,rv,q⟩:=hs
  have ce : CE outer P w (hid H S') s Q' u s':=⟨v,H1,J.os,J.bare,J.base,J.hok,rv,q⟩
  exact CE.imp (CE.resee ce e0.hok hS hfr) fun v H' z=>by
   obtain ⟨H2,rfl,k2,z⟩:=z
   exact z k2
 ·exact wpAny_mono hs (fun _ s'' z=>CX.imp (CX.resee z e0.hok hS hfr) fun v d H' z=>by
   obtain ⟨H2,rfl,k2,z⟩:=z
   exact z k2) fun _ s'' z=>CX.imp (CX.resee z e0.hok hS hfr) fun v d H' z=>by
   obtain ⟨H2,rfl,k2,z⟩:=z
   exact z k2
theorem zhe {P : Program} {w : World} {K : PySem.W.Frag} {mg : Str→Option Value} {base : Heap} {T : Tb} {TT : Tbl} {n k l : Nat} {d : Def} {D : LamD} {N ps : List Str} {G : Glb} {e : Exp} (hG : G = ⟨P,w,K,T.fnA,T.clsA,T.fldN,T.lamO,T.lamQ,T.tab,T.exV⟩) (ok : ExOk T) (S : NdefX.NScope N ps D.fr D.scope)
  (hb : ∀ (pm ctv : Value) (kc : Addr) (cl : List (Str × Addr)) (us : List Value),us.length=ps.length→bindArgs (PySem.W.kla_fn "<lambda>" D.qual D.params D.body D.scope cl pm (.ref kc) ctv) ⟨us,[]⟩ = pure (ps.zip us))
  (hd : TT.lams l=some d) (hp : d.params=ps.length) (hs : d.slots=N.length) (hc : d.caps=D.fr.length) (h1 : d.za1 = []) (h2 : d.cells = []) (hbd : d.body = .cons (.ret e) .nil)
  (hbody : ∀ (A : Around) (outer : List Env) (s : Shared) (H : Hp) (E : XK) (f kc : Addr) (cl : List (Str × Addr)) (cs : List Nat) (as : List Addr),Room k (A.deeper (NdefX.envF (D.nf cl kc) f s.heap.objs.size)) →
   CmOk (NdefX.ncx (L2.CX P w) P w K mg base N (D.nf cl kc) f A outer s H E) { T with cm:=zjm ps.length cs as (some (kc,D.qual)) } →
   SE (NdefX.ncx (L2.CX P w) P w K mg base N (D.nf cl kc) f A outer s H E) { T with cm:=zjm ps.length cs as (some (kc,D.qual)) } (WE' E) TT (call TT n) false D.body e) :
  zhu P w K mg base (k + 1) D (fun as kc=>zcF G T.ExR (call TT (n + 1)) (zhh l as kc D.qual) false []) :=
 lam_okN hG ok S hb hd hp hs hc h1 h2 hbd fun A outer s H E f kc cl cs as hr _ cm=>hbody A outer s H E f kc cl cs as hr cm
end Fx
end
section
set_option maxHeartbeats 4000000
namespace Fx
open PySem PySem.Spec PyProof.Rows L2 LamX
end Fx
end
section
set_option maxHeartbeats 4000000
namespace Fx
open PySem PySem.Spec PyProof.Rows L2 LamX
structure FnsOk (X : Cx) (T : Tb) (TT : Tbl) (C : Callee) (k n : Nat) : Prop where
 fn : ∀ g p,T.fnA g=some p→∃ fd ps,FnOk X.prog X.w X.K X.mg X.base (L2.CX X.prog X.w) k p fd ps (zcF (gl X T) T.ExR C (isFn g) false (TT.lent g))∧PySem.W.keepIn X.K (.ref p)=true∧(n=ps.length→Bnd X.K fd ps n [] id)
 lam : ∀ l o,T.lamO l=some o→∃ D,o=zdl D∧T.lamQ l=D.qual∧zhu X.prog X.w X.K X.mg X.base k D (fun as kc=>zcF (gl X T) T.ExR C (zhh l as kc D.qual) false [])
theorem FnsOk.cm {X : Cx} {T : Tb} {TT : Tbl} {C : Callee} {k n : Nat} {cm : Cm} (h : FnsOk X T TT C k n) : FnsOk X { T with cm:=cm } TT C k n:=⟨h.fn,h.lam⟩
section
variable {X : Cx} {T : Tb} {Wx : WX} {pins : List (Addr × Obj)} {σ : St} {H : Hp} {s : Shared} {k n : Nat} {f kc : Addr} {Q : VK} {us : List Value} {vs : List V} {TT : Tbl} {C : Callee} {e : Expr} {es : List Expr} {p pos : Pos} {x : Str} {D : LamD} {sp : List Addr→Addr→Sp} {as : List Addr}
theorem run_lam (F : zhu X.prog X.w X.K X.mg X.base k D sp) (hr : Room k X.A) (hf : Rd H f (zdl D f as kc)) (hk : ∃ P2,Rd H kc (zen kc D.qual P2)) (tk : Takes X Wx) (cm : CmOk X T) (I : Inv X pins σ H s) (r : Vals vs us) (h : tGo X T (sp as kc) Wx σ vs H Q) :
  wpAny (model X.prog X.w) X.A (PySem.call (.ref f) us) (EP X pins σ Q) X.xe s:=by
 refine wpAny_call ?_
 obtain ⟨J,hJ,h⟩:=h
 obtain ⟨S,cs,hS,hfr⟩:=zoa cm I hJ
 have e1:=Env0.seen I.env0 cs.no hS hfr
 have ext : ∀ p o,H p=some o→Fx.seen H S p=some o:=fun p o e=>by rw [zai (zhR cs.no e)]; exact e
 refine codeAny_mono (F.run X.A X.stack s (Fx.seen H S) f kc as us vs _ _ hr e1 (Rd.le ext hf) (let ⟨P2,hk⟩:=hk; ⟨P2,Rd.le ext hk⟩) r (h S cs)) fun r s' hq=>?_
 cases r with
 | error e =>
  have c:=CX.unseen (Cb:=fun _=>False) (show L2.CX X.prog X.w X.stack (Fx.seen H S) s (Es S Wx σ) e s' from hq) e1.hok cs.no hfr (fun _ z=>z.elim)
  exact tk e s' (XE.of_call I (fun cls d H' z=>by
   obtain ⟨H2,rfl,k2,_,z⟩:=z
   exact z k2) c)
 | ok fl =>
  cases fl with
  | ret u =>
   have c:=CE.unseen (Cb:=fun _=>False) (show CE X.stack X.prog X.w (Fx.seen H S) s (Qs S Q) u s' from hq) e1.hok cs.no hfr (fun _ z=>z.elim)
   exact I.after (CE.imp c fun v H' z=>by
    obtain ⟨H2,rfl,k2,_,z⟩:=z
    exact z k2)
  | next=>exact False.elim hq
  | brk=>exact False.elim hq
  | cont=>exact False.elim hq
theorem lam_at (I : Inv X pins σ H s) (h : Rd H f (zdl D f as kc)) : PySem.W.FnAt f s.heap:=by
 obtain ⟨cl,pm,ctv,ho,_⟩:=rd_ext I.hok h
 exact ⟨_,_,_,_,ho⟩
variable {ef : Exp} {xs : Args}
theorem se_callv (ok : ExOk T) (cm : CmOk X T) (tk : Takes X Wx) (F : FnsOk X T TT C k n) (hr : Room k X.A) (hf : SE X T Wx TT C false (.Name x p) ef) (hn : xs.len=n) (ha : SAs X T Wx TT C (e :: es) xs)
  (he : starEach (e :: es) X.env=(false,eval e X.env) :: starEach es X.env:=by rfl) (hpl : (PySem.backTo pos (starEach es X.env)).any (·.1)=false:=by rfl) :
  SE X T Wx TT C false (.Call (.Name x p) (e :: es) [] pos) (.callv ef xs):=by
 refine ⟨fun pins s σ H Q I q=>?_⟩
 simp only [ev] at q
 obtain ⟨W,fr,h,r0,a⟩:=q
 let Q1 : VK:=fun y H1=>∃ W1 v fr1 h1,RX X T W1 H1 fr1 σ h1∧Rp (gl X T) W1 v y∧AfX X T Wx σ (ResR (gl X T) false H1) W1 H1 ((match v with
  | .fn g=>bnd (eva TT C xs) fun xs=>callC C (.fn g) (TT.lent g) xs some
  | .clo l cs=>bnd (eva TT C xs) fun xs=>callC C (.lam l cs) [] xs some
  | _=>fun _ _=>.stuck) fr1 h1) Q
 have t1 : tE X T Wx false (ev TT C ef) σ H Q1:=⟨W,fr,h,r0,bndE a fun y H1 W1 v fr1 h1 ev1 r1 rr a=>⟨W1,v,fr1,h1,r1,rr,AfX.weak a fun _ _ _ _ z=>z⟩⟩
 refine wpAny_Call_Name_kw (thn (hf.run pins s σ H Q1 I t1) fun u s1 ⟨y,H1,I1,ru,W1,v,fr1,h1,r1,rr,a⟩=>?_)
 -- behind the arguments
 have args : ∀ (K : Fr→MH→List AV→Res Val) ,AfX X T Wx σ (ResR (gl X T) false H1) W1 H1 (bnd (eva TT C xs) (fun xs fr h=>K fr h xs) fr1 h1) Q →
   tAvs X T Wx (eva TT C xs) σ H1 (fun vs H2=>vs.length=n∧∃ W2 ws fr2 h2,Evo W1 H1 W2 H2∧RX X T W2 H2 fr2 σ h2∧AvsR X T σ H1 W2 H2 ws vs∧AfX X T Wx σ (ResR (gl X T) false H1) W1 H1 (K fr2 h2 ws) Q):=fun K a=>by
  refine ⟨W1,fr1,h1,r1,?_⟩
  cases q1 : eva TT C xs fr1 h1 with
  | stuck=>simp only [bnd,q1] at a; exact a.elim
  | exn c y fr2 h2=>simp only [bnd,q1] at a; exact a
  | ok ws fr2 h2 =>
   simp only [bnd,q1] at a
   intro W2 vs H2 ev2 r2 av
   exact ⟨by rw [← av.len,zit xs q1,hn],W2,ws,fr2,h2,ev2,r2,av,a⟩
 cases rr with
 | @fn g pa hg =>
  obtain ⟨fd,ps,Fk,hkp,hB⟩:=F.fn g pa hg
  obtain rfl : u=Value.ref pa:=ru
  refine PySem.W.callWith_K (h₀:=X.base) I.ok.mod.kin hkp (thn (ha.run pos pins s1 σ H1 _ I1 (args (fun fr h xs=>callC C (.fn g) (TT.lent g) xs some fr h) a)) fun us s2 ⟨vs,H2,I2,r,l1,W2,ws,fr2,h2,ev2,r2,av,a2⟩=>⟨I2.kIn,?_⟩) he hpl
  simp only [callC] at a2
  have go:=go_of (tp:=isFn g) ok (fun _ _ _=>rfl) r2 ev2 av (AfX.weak a2 fun _ _ _ _ z=>z.2)
  by_cases hl : n=ps.length
  ·obtain ⟨zs,rz,bz⟩:=(hB hl).to s2 us [] vs [] I2.kIn r .nil l1 rfl
   rw [List.append_nil] at rz
   exact run_call Fk hr bz tk cm I2 rz go
  ·exfalso
   obtain ⟨J,hJ,go⟩:=go
   obtain ⟨S,cs,_,_⟩:=zoa cm I2 hJ
   exact hl (l1.symm.trans (Fk.len _ _ _ _ (go S cs)))
 | @clo l cs as f' o kc' h1' h2' h3' h4' =>
  obtain ⟨D,rfl,hC,Fk⟩:=F.lam l o h1'
  obtain rfl : u=Value.ref f':=ru
  have z1:=r1.h.zin _ _ h3'
  refine PySem.W.callWith_F (lam_at I1 z1.rd) (thn (ha.run pos pins s1 σ H1 _ I1 (args (fun fr h xs=>callC C (.lam l cs) [] xs some fr h) a)) fun us s2 ⟨vs,H2,I2,r,l1,W2,ws,fr2,h2,ev2,r2,av,a2⟩=>?_) he hpl
  have z2:=r2.h.zin _ _ (ev2.le.Z _ _ h3')
  obtain ⟨P2,h4'⟩:=h4'
  rw [show (gl X T).lamQ l=D.qual from hC] at h4'
  have c2:=ev2.le.ct _ _ h4'
  have k3 : ∃ P2,Rd H2 kc' (zen kc' D.qual P2):=⟨P2,(r2.h.zin _ _ (r2.h.x.ct _ _ _ c2).z).rd⟩
  refine ⟨lam_at I2 z2.rd,?_⟩
  simp only [callC] at a2
  have cap2:=caps_le ev2.le h2'
  exact run_lam Fk hr z2.rd k3 tk cm I2 r (go_of (tp:=zhh l as kc' D.qual) ok (fun W' hκ hct=>⟨cs,rfl,by rw [hκ]; exact cap2,P2,by rw [hct]; exact c2⟩) r2 ev2 av (AfX.weak a2 fun _ _ _ _ z=>z.2))
 | _=>exact a.elim
end
end Fx
end
section
set_option maxHeartbeats 4000000
namespace Fx
open PySem PySem.Spec PyProof.Rows L2 LamX
def zjW : List Nat→List V→St→St
 | i :: is,v :: vs,σ=>zjW is vs (σ.set i (some v))
 | _,_,σ=>σ
section
variable {X : Cx} {T : Tb} {Wx : WX} {E : En} {W W1 W' Ws : Wd} {H H1 H' Hs : Hp} {σ σ0 : St} {fr fr1 fr' : Fr} {h h1 : MH} {e a b c : Expr} {pos : Pos} {TT : Tbl} {C : Callee} {f : Bool} {tg : Expr} {st : Stmt} {rest : List Stmt} {xs : List V} {as : List AV} {is : List Nat}
theorem par_R : ∀ (is : List Nat) {as : List AV} {xs : List V} {fr fr' : Fr} {σ : St} {W : Wd},RX X T W H fr σ h→Evo Ws Hs W H→AvsR X T σ0 Hs W H as xs→zbT is as fr=some fr'→∃ W',RX X T W' H fr' (zjW is xs σ) h∧Evo Ws Hs W' H∧(∀ j,j ∉ is→(zjW is xs σ)[j]? = σ[j]?)
 | [],[],xs,fr,fr',σ,W,r,ev,av,e=>by
  unfold zbT at e
  cases e
  have : xs = []:=by have:=av.len; cases xs with | nil=>rfl | cons _ _=>simp at this
  subst this
  exact ⟨W,r,ev,fun _ _=>rfl⟩
 | [],.v _ :: _,xs,fr,fr',σ,W,r,ev,av,e=>by simp [zbT] at e
 | [],.f _ :: _,xs,fr,fr',σ,W,r,ev,av,e=>by simp [zbT] at e
 | [],.p _ :: _,xs,fr,fr',σ,W,r,ev,av,e=>by simp [zbT] at e
 | i :: is,[],xs,fr,fr',σ,W,r,ev,av,e=>by simp [zbT] at e
 | i :: is,.p _ :: _,xs,fr,fr',σ,W,r,ev,av,e=>by simp [zbT] at e
 | i :: is,.v v :: as,xs,fr,fr',σ,W,r,ev,av,e=>by
  cases xs with
  | nil=>have:=av.len; simp at this
  | cons x xs =>
   unfold zbT at e
   by_cases hok : zbU fr i=true
   ·rw [if_pos hok] at e
    obtain ⟨s,hs,hc⟩:=zgY hok
    have hlt : i < σ.length:=by rw [← r.f.len]; exact (List.getElem?_eq_some_iff.mp hs).1
    have rv : Rp (gl X T) W v x:=av.at_ 0 _ _ rfl rfl
    have r3:=r.setS (s':=.val v) (y:=some x) hs hc (fun _=>nofun) ⟨x,List.getElem?_set_self hlt,rv⟩
    obtain ⟨W',k1,k2,k3⟩:=par_R is r3 ev ⟨by have:=av.len; simpa using this,fun j a y e1 e2=>av.at_ (j + 1) a y (by simpa using e1) (by simpa using e2),fun j k v w y e1 e2 e3 e4=>by
     have:=av.dis (j + 1) (k + 1) v w y (by simpa using e1) (by simpa using e2) (by simpa using e3) (by simpa using e4)
     omega⟩ e
    refine ⟨W',k1,k2,fun j hj=>?_⟩
    have:=k3 j (fun z=>hj (List.mem_cons_of_mem _ z))
    show (zjW is xs (σ.set i (some x)))[j]? = _
    rw [this,List.getElem?_set_ne (fun z=>hj (by rw [z]; exact List.mem_cons_self))]
   ·rw [if_neg hok] at e; cases e
 | i :: is,.f v :: as,xs,fr,fr',σ,W,r,ev,av,e=>by
  cases xs with
  | nil=>have:=av.len; simp at this
  | cons x xs =>
   unfold zbT at e
   by_cases hok : zbU fr i=true
   ·rw [if_pos hok] at e
    obtain ⟨s,hs,hc⟩:=zgY hok
    have hlt : i < σ.length:=by rw [← r.f.len]; exact (List.getElem?_eq_some_iff.mp hs).1
    obtain ⟨hld,p,rfl,hn,z,n,cu⟩ : AvR X T σ0 Hs W H (.f v) x:=av.at_ 0 _ _ rfl rfl
    have hpn : H p≠none:=by
     obtain ⟨o,ho⟩:=Cur.at _ cu
     rw [ho]; exact nofun
    have r2:=take_R (r:=.slot i) r z n hpn (fun _ _=>nofun)
    have r3:=r2.setS (s':=.own v) (y:=some (.ref p)) hs hc (fun _=>nofun) ⟨p,List.getElem?_set_self hlt,zjw,cu.up zbR⟩
    have evT : Evo Ws Hs (W.take p (.slot i)) H:=take_evo ev hn z (fun _ _=>nofun)
    obtain ⟨W',k1,k2,k3⟩:=par_R is r3 evT ⟨by have:=av.len; simpa using this,fun j a y e1 e2=>by
      have q:=av.at_ (j + 1) a y (by simpa using e1) (by simpa using e2)
      cases a with
      | v u=>exact Rp.le zbR q
      | p u=>exact q
      | f u =>
       obtain ⟨l,q',rfl,b1,b2,b3,b4⟩:=q
       have ne : q'≠p:=fun z=>by
        subst z
        have:=av.dis 0 (j + 1) v u (.ref q') rfl (by simpa using e1) rfl (by simpa using e2)
        omega
       exact ⟨l,q',rfl,b1,b2,(zeq ne).trans b3,b4.up zbR⟩,fun j k v w y e1 e2 e3 e4=>by
     have:=av.dis (j + 1) (k + 1) v w y (by simpa using e1) (by simpa using e2) (by simpa using e3) (by simpa using e4)
     omega⟩ e
    refine ⟨W',k1,k2,fun j hj=>?_⟩
    have:=k3 j (fun z=>hj (List.mem_cons_of_mem _ z))
    show (zjW is xs (σ.set i (some (.ref p))))[j]? = _
    rw [this,List.getElem?_set_ne (fun z=>hj (by rw [z]; exact List.mem_cons_self))]
   ·rw [if_neg hok] at e; cases e
theorem AvsR.evo' {as : List AV} {xs : List V} (ev : Evo W H W1 H1) (a : AvsR X T σ Hs W H as xs) : AvsR X T σ Hs W1 H1 as xs:=⟨a.len,fun j b y e1 e2=>AvR.evo ev (a.at_ j b y e1 e2),a.dis⟩
theorem ss_parG {es : List Expr} {xs : Args} {t : TS} (hp : PS X st t) (ha : ∀ D σ H,tAvs X T Wx (eva TT C xs) σ H (fun vs H1=>vs.length=xs.len∧∀ H2,(H2=H1∨∃ p,H1 p=none∧H2=upd H1 p (.tup vs))→D.nx (zjW is vs σ) H2)→t D σ H) (hl : ∀ i∈is,i ∉ E.lent) :
  SS X T Wx E TT C st (.par is xs):=by
 refine zkh hp fun D σ H ⟨W,fr,h,r,k,ev,a⟩=>ha D σ H ⟨W,fr,h,r,?_⟩
 simp only [ex] at a
 unfold zaZ at a
 cases q1 : eva TT C xs fr h with
 | stuck=>simp only [q1] at a; exact a.elim
 | exn c y fr1 h1=>simp only [q1] at a; exact fun W' cls d H' ev' r' ex'=>a W' cls d σ H' ev' r' k ex'
 | ok us fr1 h1 =>
  simp only [q1] at a
  intro W1 vs H1 ev1 r1 av
  refine ⟨by rw [← av.len,zit xs q1],fun H2 hH=>?_⟩
  cases q2 : zbT is us fr1 with
  | none=>simp only [q2] at a; exact a.elim
  | some fr2 =>
   simp only [q2] at a
   have key : ∀ {H2},RX X T W1 H2 fr1 σ h1→Evo W H W1 H2→AvsR X T σ H W1 H2 us vs→D.nx (zjW is vs σ) H2:=fun {H2} r1 ev1 av=>by
    obtain ⟨W',r',ev',hk⟩:=par_R is r1 ev1 av q2
    exact a W' _ H2 ev' r' fun i hi=>(hk i (fun z=>hl i z hi)).trans (k i hi)
   rcases hH with rfl | ⟨p,hp,rfl⟩
   ·exact key r1 ev1 av
   ·have ext : Ext H1 (upd H1 p (.tup vs)):=Ext.upd hp
    exact key (R.ext ext r1) (ev1.trans (Evo.ext ext)) (AvsR.evo' (Evo.ext ext) av)
theorem ss_par2 {i j : Nat} {x y : Str} {xs : Args} {px py pt : Pos} {kt k2 pt2} (hc : X.calm=true) (hN : X.N.Nodup) (hi : X.N[i]? = some x) (hj : X.N[j]? = some y) (hij : i≠j)
  (hx : X.env.scope.names.lookup x=some .local) (hy : X.env.scope.names.lookup y=some .local) (ha : SAs X T Wx TT C [a,b] xs) (hn : xs.len = 2) (hl : i ∉ E.lent∧j ∉ E.lent)
  (hw : swappedStores [.Tuple [.Name x px,.Name y py] kt pt] (.Tuple [a,b] k2 pt2) X.env=pure (some [x,y]))
  (hs : swapsWithSole [.Tuple [.Name x px,.Name y py] kt pt] (.Tuple [a,b] k2 pt2) pos.line X.env=pure false:=by rfl) :
  SS X T Wx E TT C (.Assign [.Tuple [.Name x px,.Name y py] kt pt] (.Tuple [a,b] k2 pt2) pos) (.par [i,j] xs):=by
 refine ss_parG (es:=[a,b]) (ps_par hc hN hi hj hij hx hy ha hw hs) (fun D σ H q=>?_) (fun z hz=>by
  simp at hz
  rcases hz with rfl | rfl
  ·exact hl.1
  ·exact hl.2)
 obtain ⟨W,fr,h,r,q⟩:=q
 refine ⟨W,fr,h,r,?_⟩
 cases q1 : eva TT C xs fr h with
 | stuck=>rw [q1] at q; exact q.elim
 | exn c y fr1 h1=>rw [q1] at q; exact q
 | ok us fr1 h1 =>
  rw [q1] at q
  intro W1 vs H1 ev1 r1 av
  obtain ⟨hlen,q⟩:=q W1 vs H1 ev1 r1 av
  rw [hn] at hlen
  match vs,hlen with
  | [v,w],_=>exact ⟨v,w,rfl,q H1 (.inl rfl)⟩
def exR (G : Glb) (cl : Nat→Option Value) (fl : Nat→Str) : Wd→Hp→Nat→Option Val→Value→Option Addr→Prop:=fun W H c x cls d =>
 cl c=some cls∧∀ v,x=some v→∃ dd y,d=some dd∧W.Z dd=some (.xd [(fl c,y)])∧Rp G W v y
theorem zd4 {G : Glb} {cl : Nat→Option Value} {fl : Nat→Str} (hT : T.ExR=exR G cl fl) : ExOk T:=by
 intro W W' H H' c e cls d le h
 rw [hT] at h ⊢
 refine ⟨h.1,fun v hv=>?_⟩
 obtain ⟨dd,y,a,b,k⟩:=h.2 v hv
 exact ⟨dd,y,a,le.Z _ _ b,Rp.lo le k⟩
end
end Fx
end
section
set_option maxHeartbeats 4000000
namespace Fx
open PySem PySem.Spec PyProof.Rows L2 LamX
section
variable {X : Cx} {T : Tb} {Wx : WX} {W W1 W' : Wd} {H H1 H' : Hp} {σ : St} {fr fr1 : Fr} {h h1 : MH} {e a b c o : Expr} {es : List Expr} {pos apos p : Pos} {TT : Tbl} {C : Callee} {f fresh : Bool} {k n : Nat} {x m : Str}
theorem evt_one {x : Exp} : evt TT C (.cons x .nil)=mT TT C x:=by
 funext fr h
 simp only [evt,mT,bnd]
 cases ev TT C x fr h with
 | ok v fr1 h1 =>
  simp only [opt]
  cases truthy v with
  | none=>rfl
  | some t=>cases t <;> rfl
 | exn c y fr1 h1=>rfl
 | stuck=>rfl
theorem sts_one {Y : Cx} {x : Exp} (hc : PT Y c (tT X T Wx (mT TT C x))) : PTs Y [c] (tT X T Wx (evt TT C (.cons x .nil))):=by
 rw [evt_one]
 exact pts_one hc
end
end Fx
end
section
set_option maxHeartbeats 4000000
namespace Fx
open PySem PySem.Spec PyProof.Rows L2
end Fx
end
section
set_option maxHeartbeats 4000000
namespace Fx
open PySem PySem.Spec PyProof.Rows L2 LamX
theorem zmX : ∀ (l : List Nat) {fr fr' : Fr} {h h' : MH},zle l fr h=some (fr',h')→l.Nodup →
  fr'.length=fr.length∧h'.objs=h.objs∧h'.cells.length=h.cells.length + l.length∧(∀ c : Nat,c < h.cells.length→h'.cells[c]? = h.cells[c]?)∧(∀ i : Nat,i ∉ l→fr'[i]? = fr[i]?) ∧
  ∀ (j i : Nat),l[j]? = some i→∃ v,fr[i]? = some (.val v)∧fr'[i]? = some (.cell (h.cells.length + j))∧h'.cells[h.cells.length + j]? = some (some v)
 | [],fr,fr',h,h',e,_=>by
  simp only [zle] at e
  cases e
  exact ⟨rfl,rfl,rfl,fun _ _=>rfl,fun _ _=>rfl,fun j i z=>by simp at z⟩
 | k :: l,fr,fr',h,h',e,nd=>by
  unfold zle at e
  cases q : fr[k]? with
  | none=>rw [q] at e; cases e
  | some s =>
   rw [q] at e
   cases s with
   | val v =>
    have hk : k < fr.length:=(List.getElem?_eq_some_iff.mp q).1
    obtain ⟨nk,nd'⟩:=List.nodup_cons.mp nd
    obtain ⟨h1,h2,h3,h4,h5,h6⟩:=zmX l e nd'
    dsimp only at h2 h3 h4 h6
    rw [List.length_append] at h3 h4 h6
    simp only [List.length_cons,List.length_nil,Nat.zero_add] at h3 h4 h6
    refine ⟨by rw [h1,List.length_set],h2,by simp only [List.length_cons]; omega,fun c hc=>?_,fun i hi=>?_,fun j i z=>?_⟩
    ·rw [h4 c (by omega),List.getElem?_append_left hc]
    ·rw [h5 i (fun z=>hi (List.mem_cons_of_mem _ z)),List.getElem?_set_ne (fun z=>hi (by rw [← z]; exact List.mem_cons_self))]
    ·cases j with
     | zero =>
      simp at z; subst z
      refine ⟨v,q,?_,?_⟩
      ·rw [Nat.add_zero,h5 k nk,List.getElem?_set_self hk]
      ·rw [Nat.add_zero,h4 _ (by omega),List.getElem?_append_right (Nat.le_refl _),Nat.sub_self]; rfl
     | succ j =>
      have z : l[j]? = some i:=by simpa using z
      obtain ⟨w,a,b,c⟩:=h6 j i z
      have ne : k≠i:=fun e=>nk (by rw [e]; exact List.mem_of_getElem? z)
      have e2 : h.cells.length + (j + 1)=h.cells.length + 1 + j:=by omega
      rw [List.getElem?_set_ne ne] at a
      exact ⟨w,a,by rw [e2]; exact b,by rw [e2]; exact c⟩
   | _=>cases e
theorem zmY : ∀ (l : List Nat) (fr : Fr) (h : MH),l.Nodup→(∀ i∈l,i < fr.length) →
  (zec l fr h).1.length=fr.length∧(zec l fr h).2.objs=h.objs∧(zec l fr h).2.cells.length=h.cells.length + l.length∧(∀ c : Nat,c < h.cells.length→(zec l fr h).2.cells[c]? = h.cells[c]?)∧(∀ i : Nat,i ∉ l→(zec l fr h).1[i]? = fr[i]?) ∧
  ∀ (j i : Nat),l[j]? = some i→(zec l fr h).1[i]? = some (.cell (h.cells.length + j))∧(zec l fr h).2.cells[h.cells.length + j]? = some none
 | [],fr,h,_,_=>⟨rfl,rfl,rfl,fun _ _=>rfl,fun _ _=>rfl,fun j i z=>by simp at z⟩
 | k :: l,fr,h,nd,hb=>by
  obtain ⟨nk,nd'⟩:=List.nodup_cons.mp nd
  have hk : k < fr.length:=hb k List.mem_cons_self
  obtain ⟨h1,h2,h3,h4,h5,h6⟩:=zmY l (fr.set k (.cell h.cells.length)) { h with cells:=h.cells ++ [Option.none] } nd' (fun i hi=>by rw [List.length_set]; exact hb i (List.mem_cons_of_mem _ hi))
  simp only [zec]
  dsimp only at h2 h3 h4 h6
  rw [List.length_append] at h3 h4 h6
  simp only [List.length_cons,List.length_nil,Nat.zero_add] at h3 h4 h6
  refine ⟨by rw [h1,List.length_set],h2,by simp only [List.length_cons]; omega,fun c hc=>?_,fun i hi=>?_,fun j i z=>?_⟩
  ·rw [h4 c (by omega),List.getElem?_append_left hc]
  ·rw [h5 i (fun z=>hi (List.mem_cons_of_mem _ z)),List.getElem?_set_ne (fun z=>hi (by rw [← z]; exact List.mem_cons_self))]
  ·cases j with
   | zero =>
    simp at z; subst z
    refine ⟨?_,?_⟩
    ·rw [Nat.add_zero,h5 k nk,List.getElem?_set_self hk]
    ·rw [Nat.add_zero,h4 _ (by omega),List.getElem?_append_right (Nat.le_refl _),Nat.sub_self]; rfl
   | succ j =>
    have z : l[j]? = some i:=by simpa using z
    obtain ⟨b,c⟩:=h6 j i z
    have e2 : h.cells.length + (j + 1)=h.cells.length + 1 + j:=by omega
    exact ⟨by rw [e2]; exact b,by rw [e2]; exact c⟩
section
variable {X : Cx} {T : Tb} {Wx : WX} {W W' : Wd} {H H' : Hp} {σ : St} {fr fr2 : Fr} {h h2 : MH} {L : List Nat} {aA : List Addr} {cm : Cm}
theorem zbO.dd {G : Glb} {D : Nat→Prop} {N : List Str} {ec : Ec} {i : Nat} {s : Slot} (c : zbO G W H N ec σ i s) : zbO G { W with dd:=D } H N ec σ i s:=by
 have lo : Wlo W { W with dd:=D }:=⟨fun _ _ h=>h,fun _ _ h=>h,fun _ _ h=>h,fun _ _ h=>h,fun _ _ h=>h⟩
 have cu : ∀ {v p},Cur G W H v p→Cur G { W with dd:=D } H v p:=fun {v p} k=>by
  cases v with
  | lst l=>obtain ⟨vs,a,b⟩:=k; exact ⟨vs,a,Rps.lo lo b⟩
  | dct l=>obtain ⟨vs,a,b⟩:=k; exact ⟨vs,a,DctR.lo lo b⟩
  | _=>exact k
 cases s with
 | un=>trivial
 | val v=>obtain ⟨x,a,b⟩:=c; exact ⟨x,a,Rp.lo lo b⟩
 | own v=>obtain ⟨p,a,b,k⟩:=c; exact ⟨p,a,b,cu k⟩
 | own2 v =>
  obtain ⟨p,a,b,k⟩:=c
  refine ⟨p,a,b,?_⟩
  cases v with
  | lst l =>
   obtain ⟨qs,h1,h2,h3⟩:=k
   exact ⟨qs,h1,h2,Paired.imp2 (fun _ q z=>⟨z.1,cu z.2⟩) h3⟩
  | _=>exact k
 | cell c'=>exact c
 | exc c' v=>obtain ⟨x,a,b⟩:=c; exact ⟨x,a,b.lo lo⟩
theorem Cur.dd {G : Glb} {D : Nat→Prop} {v : Val} {p : Addr} (k : Cur G W H v p) : Cur G { W with dd:=D } H v p:=by
 have lo : Wlo W { W with dd:=D }:=⟨fun _ _ h=>h,fun _ _ h=>h,fun _ _ h=>h,fun _ _ h=>h,fun _ _ h=>h⟩
 cases v with
 | lst l=>obtain ⟨vs,a,b⟩:=k; exact ⟨vs,a,Rps.lo lo b⟩
 | dct l=>obtain ⟨vs,a,b⟩:=k; exact ⟨vs,a,DctR.lo lo b⟩
 | _=>exact k
theorem ObR.dd {G : Glb} {D : Nat→Prop} {a : Nat} {p : Addr} {o : Ob} (c : ObR G W H a p o) : ObR G { W with dd:=D } H a p o:=by
 have lo : Wlo W { W with dd:=D }:=⟨fun _ _ h=>h,fun _ _ h=>h,fun _ _ h=>h,fun _ _ h=>h,fun _ _ h=>h⟩
 cases o with
 | inst c' fs =>
  obtain ⟨C',dx,vs,h1,h2,h3,h4⟩:=c
  refine ⟨C',dx,vs,h1,h2,fun g s q=>?_,h4⟩
  have k:=h3 g s q
  cases s with
  | val v=>obtain ⟨x,a,b⟩:=k; exact ⟨x,a,Rp.lo lo b⟩
  | own v=>obtain ⟨p,a,b,k⟩:=k; exact ⟨p,a,b,k.dd⟩
  | _=>exact k
 | hl l=>exact Cur.dd (v:=.lst l) c
 | hd l=>exact Cur.dd (v:=.dct l) c
theorem cells_R (r : RX X T W H fr σ h) (hcm : ∀ i,T.cm.c i=none) (nd : L.Nodup) (hl : aA.length=L.length)
    (hf1 : fr2.length=fr.length) (hf2 : ∀ i,i ∉ L→fr2[i]? = fr[i]?) (hf3 : ∀ j i : Nat,L[j]? = some i→fr2[i]? = some (.cell (h.cells.length + j)))
    (ho : h2.objs=h.objs) (hc1 : h2.cells.length=h.cells.length + L.length) (hc2 : ∀ c : Nat,c < h.cells.length→h2.cells[c]? = h.cells[c]?)
    (hc3 : ∀ (j i : Nat) v,L[j]? = some i→h2.cells[h.cells.length + j]? = some (some v)→fr[i]? = some (.val v))
    (hno : ∀ a∈aA,H a=none) (inj : aA.Nodup)
    (hcmA : ∀ i c,cm.c i=some c→∃ j : Nat,L[j]? = some i∧c=h.cells.length + j∧cm.a i=aA[j]?)
    (hcmC : ∀ j i : Nat,L[j]? = some i→cm.c i=some (h.cells.length + j)) (hce : cm.e=T.cm.e) (hck : cm.k=T.cm.k) :
    RX X { T with cm:=cm } (W.more aA) H fr2 σ h2∧Evo W H (W.more aA) H:=by
  have le:=more_le (W:=W) (aA:=aA)
  have nc : ∀ (i c : Nat),fr[i]?≠some (Slot.cell c):=fun i c e=>by
    have z : T.cm.c i=some c:=r.f.at_ i _ e
    rw [hcm i] at z; cases z
  have fo : ∀ a f,fieldOf h2 a f=fieldOf h a f:=fun a f=>by unfold fieldOf; rw [ho]
  have kold : ∀ c : Nat,c < h.cells.length→(W.more aA).κ[c]? = W.κ[c]?:=fun c hc=>by
    show (W.κ ++ aA)[c]? = _
    rw [List.getElem?_append_left (by rw [r.h.lκ]; exact hc)]
  have knew : ∀ i : Nat,(W.more aA).κ[h.cells.length + i]? = aA[i]?:=fun i=>by
    show (W.κ ++ aA)[h.cells.length + i]? = _
    rw [List.getElem?_append_right (by rw [r.h.lκ]; omega),r.h.lκ,Nat.add_sub_cancel_left]
  have split : ∀ c : Nat,c < h.cells.length∨∃ i,c=h.cells.length + i:=fun c=>by
    by_cases z : c < h.cells.length
    · exact .inl z
    · exact .inr ⟨c - h.cells.length,by omega⟩
  have ndo : ∀ c : Nat,c < h.cells.length→¬ (W.more aA).dd c→¬ W.dd c:=fun c l n z=>n ⟨by rw [r.h.lκ]; exact l,z⟩
  have isC : ∀ (i c : Nat),fr2[i]? = some (Slot.cell c)→∃ j : Nat,L[j]? = some i∧c=h.cells.length + j:=fun i c e=>by
    by_cases z : i∈L
    · obtain ⟨j,hj⟩:=List.mem_iff_getElem?.mp z
      rw [hf3 j i hj] at e; cases e
      exact ⟨j,hj,rfl⟩
    · rw [hf2 i z] at e
      exact absurd e (nc i c)
  have Linj : ∀ {i j k : Nat},L[i]? = some k→L[j]? = some k→i=j:=fun {i j k} e1 e2=>(List.getElem?_inj (List.getElem?_eq_some_iff.mp e1).1 nd).mp (e1.trans e2.symm)
  have Ainj : ∀ {i j : Nat} {a : Addr},aA[i]? = some a→aA[j]? = some a→i=j:=fun {i j a} e1 e2=>(List.getElem?_inj (List.getElem?_eq_some_iff.mp e1).1 inj).mp (e1.trans e2.symm)
  have ktH : ∀ (c : Nat) (a : Addr),¬ W.dd c→W.κ[c]? = some a→∃ o,H a=some (zbk a o):=fun c a n e=>by
    rcases r.h.x.kt c a n e with ⟨i,z⟩ | z
    · exact absurd z (nc i c)
    · exact z
  refine ⟨⟨⟨by rw [hf1]; exact r.f.len,fun i s e=>?_,fun i j c e1 e2=>?_⟩,⟨fun p o z=>⟨(r.h.zin p o z).rd,(r.h.zin p o z).no,(r.h.zin p o z).nf,(r.h.zin p o z).ls⟩,r.h.fin,r.h.oin,r.h.uni,r.h.oas,fun a f=>by rw [fo]; exact r.h.asn a f,by rw [ho]; exact r.h.lι,⟨?_,fun c v e n=>?_⟩,fun a o z=>?_,fun c v e=>?_,⟨r.h.x.tab,fun c d a n1 n2 e1 e2=>?_,fun c a n e=>?_,fun k P q e=>(r.h.x.ct k P q e).mv (fun _ _ h=>h) (fun h=>h) (fun _ h=>h) rfl⟩⟩,fun i c e=>?_,fun i c e n=>?_,fun k q e=>let ⟨P,h⟩:=r.kk.3 k q (by rw [← hck]; exact e); ⟨P,le.ct _ _ h⟩⟩,?_⟩
  · by_cases z : i∈L
    · obtain ⟨j,hj⟩:=List.mem_iff_getElem?.mp z
      rw [hf3 j i hj] at e; cases e
      exact hcmC j i hj
    · rw [hf2 i z] at e
      have c:=r.f.at_ i s e
      cases s with
      | un=>trivial
      | val v=>obtain ⟨x,a,b⟩:=c; exact ⟨x,a,b.le le⟩
      | own v=>obtain ⟨p,a,b,k⟩:=c; exact ⟨p,a,b,k.up le⟩
      | own2 v =>
        obtain ⟨p,a,b,k⟩:=c
        refine ⟨p,a,b,?_⟩
        cases v with
        | lst l =>
          obtain ⟨qs,h1,h2,h3⟩:=k
          exact ⟨qs,h1,h2,Paired.imp2 (fun _ q z=>⟨z.1,z.2.up le⟩) h3⟩
        | _=>exact k
      | cell c'=>exact absurd e (nc i c')
      | exc c' v=>obtain ⟨x,a,b⟩:=c; exact ⟨x,a,by show ExcAt _ _ _ _ cm.e _ _; rw [hce]; exact b.le le⟩
  · obtain ⟨a,h1,h2⟩:=isC i c e1
    obtain ⟨b,h3,h4⟩:=isC j c e2
    have : a=b:=by omega
    subst this
    rw [h1] at h3; exact Option.some.inj h3
  · show (W.κ ++ aA).length = _
    rw [List.length_append,r.h.lκ,hl,hc1]
  · have n1 : c < h.cells.length:=by rw [← r.h.lκ]; exact n.1
    rw [hc2 c n1] at e
    exact r.h.lk.2 c v e n.2
  · rw [ho] at z
    obtain ⟨p,k1,k2,k3⟩:=r.h.objs a o z
    refine ⟨p,k1,k2,?_⟩
    cases o with
    | inst c' fs =>
      obtain ⟨C',dx,vs,hC,hp,hf,hr⟩:=k3
      refine ⟨C',dx,vs,hC,hp,fun g s q=>?_,hr⟩
      have k:=hf g s q
      cases s with
      | val v=>obtain ⟨x,a,b⟩:=k; exact ⟨x,a,b.le le⟩
      | own v=>obtain ⟨p,a,b,k⟩:=k; exact ⟨p,a,b,k.up le⟩
      | _=>exact k
    | hl l=>exact Cur.up (v:=.lst l) le k3
    | hd l=>exact Cur.up (v:=.dct l) le k3
  · rcases split c with z | ⟨j,rfl⟩
    · rw [hc2 c z] at e
      rcases r.h.cells c v e with ⟨i,x,k1,_⟩ | ⟨_,a,x,u,k1,k2,k3,k4⟩
      · exact absurd k1 (nc i c)
      · refine .inr ⟨fun i q=>?_,a,x,u,le.κ _ _ k1,k2,k3,k4.le le⟩
        obtain ⟨j,_,q2⟩:=isC i c q
        omega
    · have hj : j < L.length:=by
        have:=(List.getElem?_eq_some_iff.mp e).1
        omega
      have hL : L[j]? = some L[j]:=List.getElem?_eq_getElem hj
      have hv:=hc3 j _ v hL e
      obtain ⟨x,a,b⟩:=r.f.at_ _ _ hv
      exact .inl ⟨L[j],x,hf3 j _ hL,a,b.le le⟩
  · rcases split c with z1 | ⟨i,rfl⟩ <;> rcases split d with z2 | ⟨j,rfl⟩
    · rw [kold c z1] at e1; rw [kold d z2] at e2
      exact r.h.x.ki c d a (ndo c z1 n1) (ndo d z2 n2) e1 e2
    · rw [kold c z1] at e1; rw [knew] at e2
      obtain ⟨o,z⟩:=ktH c a (ndo c z1 n1) e1
      rw [hno a (List.mem_of_getElem? e2)] at z; cases z
    · rw [kold d z2] at e2; rw [knew] at e1
      obtain ⟨o,z⟩:=ktH d a (ndo d z2 n2) e2
      rw [hno a (List.mem_of_getElem? e1)] at z; cases z
    · rw [knew] at e1 e2
      rw [Ainj e1 e2]
  · rcases split c with z1 | ⟨j,rfl⟩
    · rw [kold c z1] at e
      exact .inr (ktH c a (ndo c z1 n) e)
    · rw [knew] at e
      have hj : j < L.length:=by rw [← hl]; exact (List.getElem?_eq_some_iff.mp e).1
      exact .inl ⟨L[j],hf3 j _ (List.getElem?_eq_getElem hj)⟩
  · obtain ⟨j,h1,h2,h3⟩:=hcmA i c e
    have hj : j < aA.length:=by rw [hl]; exact (List.getElem?_eq_some_iff.mp h1).1
    refine ⟨aA[j],h3.trans (List.getElem?_eq_getElem hj),?_⟩
    rw [h2,knew]
    exact List.getElem?_eq_getElem hj
  · obtain ⟨j,_,h2,_⟩:=hcmA i c e
    have n1 : c < W.κ.length:=n.1
    rw [r.h.lκ] at n1
    omega
  · refine ⟨le,fun p o e _ n=>⟨e,n⟩,fun _ _ _ z _=>z,fun _ _ z=>z,fun _ _ _ _ z=>z,fun _ h=>h,fun p o r r' _ a b=>?_,fun _ _ _ n=>n⟩
    have b : W.own p=some r':=b
    rw [a] at b; cases b; rfl
end
end Fx
end
section
set_option maxHeartbeats 4000000
namespace Fx
open PySem PySem.Spec PyProof.Rows L2 LamX
theorem ziu : ∀ (l : List Slot) (cs : List (Option Val)),(zdG cs l).length=cs.length
 | [],_=>rfl
 | s :: r,cs=>by
  cases s with
  | cell c=>exact (ziu r _).trans (List.length_set ..)
  | _=>exact ziu r cs
theorem zgv : ∀ (l : List Slot) {cs : List (Option Val)} {c : Nat} {v : Val},(zdG cs l)[c]? = some (some v)→cs[c]? = some (some v)∧Slot.cell c ∉ l
 | [],cs,c,v,e=>⟨e,by simp⟩
 | s :: r,cs,c,v,e=>by
  have go : ∀ {cs' : List (Option Val)},(zdG cs' r)[c]? = some (some v)→cs'[c]? = some (some v)∧Slot.cell c ∉ r:=fun e=>zgv r e
  cases s with
  | cell d =>
   obtain ⟨a,b⟩:=go (cs':=cs.set d none) e
   by_cases z : d=c
   ·subst z
    by_cases hd : d < cs.length
    ·rw [List.getElem?_set_self hd] at a; cases a
    ·rw [List.getElem?_eq_none (by rw [List.length_set]; omega)] at a; cases a
   ·rw [List.getElem?_set_ne z] at a
    exact ⟨a,fun m=>by rcases List.mem_cons.mp m with m | m; cases m; exact z rfl; exact b m⟩
  | _ =>
   obtain ⟨a,b⟩:=go (cs':=cs) e
   exact ⟨a,fun m=>by rcases List.mem_cons.mp m with m | m; cases m; exact b m⟩
def Wd.exitC (W : Wd) (lent : List Nat) (fr : Fr) : Wd:={ W.exit lent with dd:=fun c=>W.dd c∨∃ i : Nat,fr[i]? = some (Slot.cell c) }
section
variable {X : Cx} {T : Tb} {Wx : WX} {W W' : Wd} {H H' H0 : Hp} {σ : St} {fr : Fr} {h : MH} {lent : List Nat} {ss : List Slot} {vs : List V} {d : Def}
theorem lo_dd {D : Nat→Prop} : Wlo W { W with dd:=D }:=⟨fun _ _ h=>h,fun _ _ h=>h,fun _ _ h=>h,fun _ _ h=>h,fun _ _ h=>h⟩
theorem exitC_lo : Wlo W (W.exitC lent fr):=⟨fun _ _ h=>h,fun _ _ h=>h,fun _ _ h=>h,fun _ _ h=>h,fun _ _ h=>h⟩
theorem exit_RC (r : RX X T W H fr σ h) : HpR (gl X T) (W.exitC lent fr) H [] [] { h with cells:=zdG h.cells fr }:=by
 have le:=zd0 (W:=W) (lent:=lent)
 have nin : ∀ {c : Nat},Slot.cell c ∉ fr→∀ i : Nat,fr[i]?≠some (Slot.cell c):=fun n i e=>n (List.mem_of_getElem? e)
 refine ⟨fun p o z=>⟨(r.h.zin p o z).rd,zcv (r.h.zin p o z).no,(r.h.zin p o z).nf,(r.h.zin p o z).ls⟩,r.h.fin,fun p o z=>r.h.oin p o (zaK z).1,fun p q a f z z'=>r.h.uni p q a f (zaK z).1 (zaK z').1,fun q a f z=>r.h.oas q a f (zaK z).1,r.h.asn,r.h.lι,⟨r.h.lκ.trans (ziu _ _).symm,fun c v e n=>?_⟩,fun a o ho=>?_,fun c v e=>?_,?_⟩
 ·obtain ⟨e1,e2⟩:=zgv _ e
  rcases n with n | ⟨i,n⟩
  ·exact r.h.lk.2 c v e1 n
  ·exact nin e2 i n
 ·obtain ⟨p,h1,h2,h3⟩:=r.h.objs a o ho
  refine ⟨p,h1,zbr h2 (fun _=>nofun) (fun _=>nofun),?_⟩
  have k : ObR (gl X T) (W.exit lent) H a p o:=by
   cases o with
   | inst c' fs =>
    obtain ⟨C',dx,vs,hC,hp,hf,hr,hl⟩:=h3
    refine ⟨C',dx,vs,hC,hp,fun g s q=>?_,hr,hl⟩
    have k:=hf g s q
    cases s with
    | val v=>obtain ⟨x,a,b⟩:=k; exact ⟨x,a,b.le le⟩
    | own v=>obtain ⟨p,a,b,k⟩:=k; exact ⟨p,a,zbr b (fun _=>nofun) (fun _=>nofun),k.up le⟩
    | _=>exact k
   | hl l=>exact Cur.up (v:=.lst l) le h3
   | hd l=>exact Cur.up (v:=.dct l) le h3
  exact k.dd
 ·obtain ⟨e1,e2⟩:=zgv _ e
  rcases r.h.cells c v e1 with ⟨i,x,h1,_⟩ | ⟨_,a,x,u,h3,h4,h5,h6⟩
  ·exact absurd h1 (nin e2 i)
  ·exact .inr ⟨fun i=>by simp,a,x,u,h3,h4,h5,Rp.lo exitC_lo h6⟩
 ·refine ⟨fun P nm e=>?_,fun c d a n1 n2=>r.h.x.ki c d a (fun z=>n1 (.inl z)) (fun z=>n2 (.inl z)),fun c a nd e=>?_,fun k P q e=>(r.h.x.ct k P q e).mv (fun _ _ h=>h) (fun o=>zbr o (fun _=>nofun) (fun _=>nofun)) (fun _ h=>h) rfl⟩
  ·obtain ⟨o,k⟩:=r.h.x.tab P nm e
   exact ⟨zbr o (fun _=>nofun) (fun _=>nofun),k⟩
  ·rcases r.h.x.kt c a (fun z=>nd (.inl z)) e with ⟨i,z⟩ | z
   ·exact absurd (.inr ⟨i,z⟩) nd
   ·exact .inr z
theorem ResR.dd {G : Glb} {D : Nat→Prop} {f : Bool} {v : Val} {x : V} (rr : ResR G f H0 W H v x) : ResR G f H0 { W with dd:=D } H v x:=by
 cases f with
 | false=>exact Rp.lo lo_dd (show Rp G W v x from rr)
 | true =>
  cases v with
  | lst l=>obtain ⟨p,a,b,c,d,e⟩:=rr; exact ⟨p,a,b,c,d,e.dd⟩
  | dct l=>obtain ⟨p,a,b,c,d,e⟩:=rr; exact ⟨p,a,b,c,d,e.dd⟩
  | _=>exact Rp.lo lo_dd (show Rp G W _ x from rr)
theorem OutR.dd {G : Glb} {D : Nat→Prop} {outs : List Slot} (o : OutR G W H lent outs vs) : OutR G { W with dd:=D } H lent outs vs:=by
 intro j hj s x e1 e2
 have k:=o j hj s x e1 e2
 cases s with
 | val v=>exact Rp.lo lo_dd (show Rp G W v x from k)
 | own v=>obtain ⟨p,a,b,c⟩:=k; exact ⟨p,a,b,c.dd⟩
 | _=>trivial
theorem zld {W0 : Wd} {H0 : Hp} (ev : Evo W0 H0 W H) (hc : ∀ (i c : Nat),fr[i]? = some (Slot.cell c)→W0.κ.length≤c) : Evo W0 H0 (W.exitC lent fr) H:=by
 have e:=zjE (lent:=lent) ev
 refine ⟨⟨e.le.Z,e.le.F,e.le.ι,e.le.κ,e.le.L,fun c l=>⟨fun z=>?_,fun z=>.inl ((ev.le.dd c l).mpr z)⟩,e.le.ct⟩,e.stay,e.thaw,e.asn,e.hold,e.dom,e.zih,e.zown⟩
 rcases z with z | ⟨i,z⟩
 ·exact (ev.le.dd c l).mp z
 ·have:=hc i c z
  omega
end
theorem idx_at {L : List Nat} (nd : L.Nodup) {j i : Nat} (e : L[j]? = some i) : L.idxOf i=j:=by
 have hm : i∈L:=List.mem_of_getElem? e
 have hl : L.idxOf i < L.length:=List.idxOf_lt_length_of_mem hm
 have h2 : L[L.idxOf i]? = some i:=by rw [List.getElem?_eq_getElem hl,List.getElem_idxOf hl]
 exact (List.getElem?_inj hl nd).mp (h2.trans e.symm)
theorem fx_fnC {P : Program} {w : World} {K : PySem.W.Frag} {mg : Str→Option Value} {base : Heap} {T : Tb} {TT : Tbl} {n g k : Nat} {d : Def} {f : Addr} {name qual : Str} {params : Arguments} {body : List Stmt} {scope : Scope} {dV kV doc pm cdv ct oc : Value} {an od : Option Addr}
  {osl : Array (Option Value)} {N ps : List Str} {G : Glb} {pcl lcl : List Nat} (hG : G = ⟨P,w,K,T.fnA,T.clsA,T.fldN,T.lamO,T.lamQ,T.tab,T.exV⟩) (ok : ExOk T) (hcm : NoCm T) (lk : K.lookup f=some ⟨oc,od,.func (PySem.W.fnOf name qual params body scope dV kV doc pm an cdv ct),osl⟩) (hcd : PySem.W.codeIn K cdv qual=true) (S : FnScope N ps scope)
  (hd : TT.defs g=some d) (hp : d.params=ps.length) (hs : d.slots=N.length) (hc : d.caps = 0) (h1 : d.za1=pcl) (h2 : d.cells=lcl) (h3 : d.esc=false)
  (nd : (pcl ++ lcl).Nodup) (hpc : ∀ i∈pcl,i < ps.length) (hlc : ∀ i∈lcl,i < N.length) (hcell : ∀ i∈pcl ++ lcl,∀ y,N[i]? = some y→scope.names.lookup y=some .cell)
  (hbody : ∀ (A : Around) (outer : List Env) (s : Shared) (H : Hp) (E : XK) (En : En) (cm : Cm),Room k (A.deeper (envOfC qual scope s.heap.objs.size f cdv))→En.fr=d.fresh→En.lent=d.lent →
   CmOk (cxOf (L2.CX P w) P w K mg base N qual scope f cdv A outer s H E) { T with cm:=cm }→(∀ i,i ∉ pcl ++ lcl→cm.c i=none)→(∀ i∈pcl ++ lcl,∃ a,cm.a i=some a) →
   SSs (cxOf (L2.CX P w) P w K mg base N qual scope f cdv A outer s H E) { T with cm:=cm } (WE' E) En TT (call TT n) body d.body) :
  FnOk P w K mg base (L2.CX P w) (k + 1) f (PySem.W.fnOf name qual params body scope dV kV doc pm an cdv ct) ps (zcF G T.ExR (call TT (n + 1)) (isFn g) d.fresh d.lent):=by
 have len : ∀ vs H Q E,zcF G T.ExR (call TT (n + 1)) (isFn g) d.fresh d.lent vs H Q E→vs.length=ps.length:=fun vs H Q E q=>by rw [zcF.len hd q,hp]
 have hpl : ps.length≤N.length:=by
  have q:=congrArg List.length S.pre
  rw [List.length_take] at q
  omega
 refine ⟨len,fun A outer s H args us vs Q E hr e0 hbind r hsp=>?_⟩
 have hl:=len _ _ _ _ hsp
 have KX : K.In s.heap:=e0.mod.kin.keeps fun b o e=>(e0.bs b o e).1
 have lim : s.heap.NoLimit:=e0.mod.nolimit.keeps fun b o e=>(e0.bs b o e).1
 let cl:=cellsFrom (s.heap.objs.size + 1) scope.names []
 have hkind : ∀ y∈ps.zip us,scope.names.lookup y.1=some .local∨(scope.names.lookup y.1=some .cell∧(cl.lookup y.1).isSome=true):=fun y hy =>
  (S.par y.1 (List.of_mem_zip (show (y.1,y.2)∈ps.zip us from hy)).1).imp id fun q=>⟨q,PySem.W.cellsFrom_some _ _ _ (.inl q)⟩
 refine codeAny_call_function hr.depth (KX _ _ lk) rfl S.co S.gen rfl (PySem.W.codeRec_of KX hcd) (hbind _ _ _ _ ?_)
 refine wpAny_newFunctionEnv_cells S.kind hkind fun env he s1 x=>?_
 subst he
 refine ⟨lim.keeps x.toInCall.keep,codeAny_func ?_⟩
 let X:=cxOf (L2.CX P w) P w K mg base N qual scope f cdv A outer s H E
 have I : Inv X [] (start N vs) H s1:=inv_start S hr.hd e0 hl r x
 obtain ⟨W,ss,h,t,rfl,hR,ar,hsl,hsb,m⟩:=hsp
 let L:=pcl ++ lcl
 have hLN : ∀ i∈L,i < N.length:=fun i hi=>by
  rcases List.mem_append.mp hi with z | z
  ·exact Nat.lt_of_lt_of_le (hpc i z) hpl
  ·exact hlc i z
 -- where the cells stand
 let ad : Nat→Addr:=fun i=>((N[i]?).bind fun y=>cl.lookup y).getD 0
 have had : ∀ i∈L,∃ y,N[i]? = some y∧scope.names.lookup y=some .cell∧cl.lookup y=some (ad i):=fun i hi=>by
  have hN : N[i]? = some N[i]!:=by
   have:=hLN i hi
   rw [List.getElem?_eq_getElem this,getElem!_pos N i this]
  have hk:=hcell i hi _ hN
  obtain ⟨a,e⟩:=cell_has (n:=s.heap.objs.size + 1) hk
  refine ⟨_,hN,hk,?_⟩
  show cl.lookup _=some (((N[i]?).bind fun y=>cl.lookup y).getD 0)
  rw [hN]
  show cl.lookup _=some ((cl.lookup _).getD 0)
  rw [show cl.lookup N[i]! = some a from e]; rfl
 have hge : ∀ i∈L,s.heap.objs.size≤ad i:=fun i hi=>by
  obtain ⟨y,_,_,e⟩:=had i hi
  exact Nat.le_of_lt (x.above y _ (PySem.mem_of_lookup e))
 simp only [call,hd] at m
 have hen : enter d ss [] h=if ss.length=d.params then (zle pcl (ss ++ List.replicate (d.slots - d.params) Slot.un) h).map (fun sh=>zec lcl sh.1 sh.2) else none:=by
  unfold enter
  rw [h1,h2,hc]
  by_cases e : ss.length=d.params
  ·rw [if_pos ⟨e,rfl,rfl⟩,if_pos e]; rfl
  ·rw [if_neg (fun z=>e z.1),if_neg e]
 rw [hen] at m
 by_cases hsl' : ss.length=d.params
 case neg=>rw [if_neg hsl'] at m; exact m.elim
 rw [if_pos hsl'] at m
 have hlen : ss.length + (d.slots - d.params)=N.length:=by omega
 have r0 : RX X T W H (ss ++ List.replicate (d.slots - d.params) .un) (L2.start N vs) h:=enter_R (X:=X) (show gl X T=G from hG.symm) rfl hcm hR ar hlen
 cases hep : zle pcl (ss ++ List.replicate (d.slots - d.params) Slot.un) h with
 | none=>rw [hep] at m; exact m.elim
 | some p =>
  obtain ⟨fr1,hh1⟩:=p
  rw [hep] at m
  obtain ⟨p1,p2,p3,p4,p5,p6⟩:=zmX _ hep (List.nodup_append.mp nd).1
  have hf1 : fr1.length=N.length:=by rw [p1,r0.f.len]; unfold L2.start; rw [List.length_append,List.length_map,List.length_replicate]; omega
  obtain ⟨c1,c2,c3,c4,c5,c6⟩:=zmY lcl fr1 hh1 (List.nodup_append.mp nd).2.1 (fun i hi=>by rw [hf1]; exact hlc i hi)
  simp only [Option.map_some] at m
  generalize hfr2 : (zec lcl fr1 hh1).1=fr2 at m c1 c5 c6
  generalize hh2 : (zec lcl fr1 hh1).2=h2' at m c2 c3 c4 c6
  have dis : ∀ i∈pcl,i ∉ lcl:=fun i a b=>(List.nodup_append.mp nd).2.2 i a i b rfl
  have Lget : ∀ j i : Nat,L[j]? = some i→(j < pcl.length∧pcl[j]? = some i)∨(pcl.length≤j∧lcl[j - pcl.length]? = some i):=fun j i e=>by
   by_cases z : j < pcl.length
   ·rw [List.getElem?_append_left z] at e; exact .inl ⟨z,e⟩
   ·rw [List.getElem?_append_right (by omega)] at e; exact .inr ⟨by omega,e⟩
  have k3 : ∀ j i : Nat,L[j]? = some i→fr2[i]? = some (.cell (h.cells.length + j)):=fun j i e=>by
   rcases Lget j i e with ⟨_,e⟩ | ⟨z,e⟩
   ·obtain ⟨v,_,a,_⟩:=p6 j i e
    rw [c5 i (dis i (List.mem_of_getElem? e))]; exact a
   ·obtain ⟨a,_⟩:=c6 _ i e
    rw [a,p3]
    congr 2; omega
  have kc3 : ∀ (j i : Nat) v,L[j]? = some i→h2'.cells[h.cells.length + j]? = some (some v)→(ss ++ List.replicate (d.slots - d.params) Slot.un)[i]? = some (.val v):=fun j i v e q=>by
   rcases Lget j i e with ⟨z,e⟩ | ⟨z,e⟩
   ·obtain ⟨w,a,_,b⟩:=p6 j i e
    rw [c4 _ (by omega),b] at q; cases q
    exact a
   ·obtain ⟨_,b⟩:=c6 _ i e
    rw [p3,show h.cells.length + pcl.length + (j - pcl.length)=h.cells.length + j by omega,q] at b
    cases b
  let aA:=L.map ad
  let cm : Cm:=⟨fun i=>if i∈L then some (h.cells.length + L.idxOf i) else none,fun i=>if i∈L then some (ad i) else none,T.cm.e,none⟩
  have aInj : ∀ i∈L,∀ j∈L,ad i=ad j→i=j:=fun i hi j hj e=>by
   obtain ⟨y,y1,_,y2⟩:=had i hi
   obtain ⟨z,z1,_,z2⟩:=had j hj
   have:=I.ok.inj y z (ad i) y2 (by rw [e]; exact z2)
   subst this
   exact (List.getElem?_inj (List.getElem?_eq_some_iff.mp y1).1 S.nd).mp (y1.trans z1.symm)
  have aNd : aA.Nodup:=by
   have go : ∀ l : List Nat,l.Nodup→(∀ i∈l,i∈L)→(l.map ad).Nodup:=fun l=>by
    induction l with
    | nil=>intro _ _; exact List.nodup_nil
    | cons i l ih =>
     intro nd hL
     obtain ⟨a,b⟩:=List.nodup_cons.mp nd
     refine List.nodup_cons.mpr ⟨fun q=>?_,ih b fun k hk=>hL k (List.mem_cons_of_mem _ hk)⟩
     obtain ⟨k,hk,ek⟩:=List.mem_map.mp q
     have:=aInj k (hL k (List.mem_cons_of_mem _ hk)) i (hL i List.mem_cons_self) ek
     subst this
     exact a hk
   exact go L nd fun _ h=>h
  have hno : ∀ a∈aA,H a=none:=fun a ha=>by
   obtain ⟨i,hi,rfl⟩:=List.mem_map.mp ha
   obtain ⟨y,_,_,e⟩:=had i hi
   exact I.freeC y _ e
  have cmA : ∀ i c,cm.c i=some c→∃ j : Nat,L[j]? = some i∧c=h.cells.length + j∧cm.a i=aA[j]?:=fun i c e=>by
   have e : (if i∈L then some (h.cells.length + L.idxOf i) else none)=some c:=e
   by_cases hi : i∈L
   ·rw [if_pos hi] at e; cases e
    have hlt : L.idxOf i < L.length:=List.idxOf_lt_length_of_mem hi
    have hg : L[L.idxOf i]? = some i:=by rw [List.getElem?_eq_getElem hlt,List.getElem_idxOf hlt]
    refine ⟨_,hg,rfl,?_⟩
    show (if i∈L then some (ad i) else none)=(L.map ad)[L.idxOf i]?
    rw [if_pos hi,List.getElem?_map,hg]; rfl
   ·rw [if_neg hi] at e; cases e
  have cmC : ∀ j i : Nat,L[j]? = some i→cm.c i=some (h.cells.length + j):=fun j i e=>by
   show (if i∈L then some (h.cells.length + L.idxOf i) else none) = _
   rw [if_pos (List.mem_of_getElem? e),idx_at nd e]
  obtain ⟨r1,ev1⟩:=cells_R (X:=X) (cm:=cm) r0 hcm.1 nd (by show (L.map ad).length = _; exact List.length_map _) (c1.trans p1) (fun i hi=>by
    rw [c5 i (fun z=>hi (List.mem_append_right _ z)),p5 i (fun z=>hi (List.mem_append_left _ z))]) k3 (c2.trans p2) (by rw [c3,p3,Nat.add_assoc]; exact congrArg _ List.length_append.symm)
   (fun c hc=>by rw [c4 c (by omega),p4 c hc]) kc3 hno aNd cmA cmC rfl hcm.2.symm
  have hCm : CmOk X { T with cm:=cm }:=by
   refine ⟨fun i a e=>?_⟩
   have e : (if i∈L then some (ad i) else none)=some a:=e
   by_cases hi : i∈L
   ·rw [if_pos hi] at e; cases e
    obtain ⟨y,y1,y2,y3⟩:=had i hi
    refine ⟨y,y1,y3,.inl y2,?_,.inl (hge i hi)⟩
    cases q : base.get? (ad i) with
    | none=>exact q
    | some o =>
     have:=hge i hi
     have b1:=Heap.lt_size q
     have b2:=e0.bsz
     exact absurd (Nat.lt_of_lt_of_le b1 b2) (Nat.not_lt.mpr this)
   ·rw [if_neg hi] at e; cases e
  let En : En:=⟨W,H,d.fresh,d.lent,L2.start N vs,hsl⟩
  have body':=hbody A outer s H E En cm (hr.deeper _) rfl rfl hCm (fun i hi=>if_neg hi) (fun i hi=>⟨ad i,if_pos hi⟩)
  have gX : gl X T=G:=hG.symm
  have old : ∀ {W' H' fr' σ' h'},RX X { T with cm:=cm } W' H' fr' σ' h'→∀ (i c : Nat),fr'[i]? = some (Slot.cell c)→W.κ.length≤c:=fun r i c e=>by
   obtain ⟨j,_,e2,_⟩:=cmA i c (r.f.at_ i _ e)
   rw [hR.lκ]; omega
  have kill : ∀ (fr' : Fr) (h' : MH),zfZ d fr' h' = { h' with cells:=zdG h'.cells fr' }:=fun fr' h'=>by
   unfold zfZ
   rw [h3,hc,Nat.add_zero,List.take_append_drop]; rfl
  have out : ∀ {W' H' fr' σ' h'},RX X { T with cm:=cm } W' H' fr' σ' h'→En.keep σ'→HpR G (W'.exitC d.lent fr') H' [] [] (zfZ d fr' h')∧OutR G (W'.exitC d.lent fr') H' d.lent (fr'.take d.params) vs:=fun {W' H' fr' σ' h'} r k=>by
   rw [kill,← gX]
   exact ⟨exit_RC (T:={ T with cm:=cm }) r,OutR.dd (exit_out (T:={ T with cm:=cm }) (N:=N) r k)⟩
  have fin : ∀ {σ' : St} {H' : Hp} {v : V} {u : Value} {s' : Shared},Inv X [] σ' H' s'→RelV v u→Q v H'→CE outer P w H s Q u s':=fun {_ H' v _ _} J rv q=>⟨v,H',J.os,J.bare,J.base,J.hok,rv,q⟩
  have start' : (tS X { T with cm:=cm } (WE' E) En (exs TT (call TT n) d.body)) { nx:=fun _ H'=>Q .non H',rt:=Q } (L2.start N vs) H:=by
   refine ⟨W.more aA,fr2,h2',r1,fun i _=>rfl,ev1,?_⟩
   cases q : exs TT (call TT n) d.body fr2 h2' with
   | nx fr' h' =>
    rw [q] at m
    intro W' σ' H' ev r k
    obtain ⟨hR',ho⟩:=out r k
    exact m (W'.exitC d.lent fr') .non H' (zld (ev1.trans ev) (old r)) hR' ho (by cases d.fresh <;> exact Rp.none)
   | ret v fr' h' =>
    rw [q] at m
    intro W' x σ' H' ev r k rr
    obtain ⟨hR',ho⟩:=out r k
    refine m (W'.exitC d.lent fr') x H' (zld (ev1.trans ev) (old r)) hR' ho ?_
    rw [← gX]
    exact ResR.dd (exit_res rr)
   | exn c x fr' h' =>
    rw [q] at m
    intro W' cls dd σ' H' ev r k ex
    obtain ⟨hR',ho⟩:=out r k
    exact m (W'.exitC d.lent fr') cls dd H' (zld (ev1.trans ev) (old r)) hR' ho (ok _ _ _ _ _ _ _ _ exitC_lo ex)
   | brk fr' h'=>rw [q] at m; exact m.elim
   | cont fr' h'=>rw [q] at m; exact m.elim
   | stuck=>rw [q] at m; exact m.elim
  refine wpAny_mono (body'.run [] s1 _ H _ I start') (fun fl s2 hq=>?_) fun _ _ hq=>hq
  cases fl with
  | next=>obtain ⟨_,_,J,q⟩:=hq; exact fin (v:=V.non) (u:=Value.none) J rfl q
  | ret u=>obtain ⟨_,_,_,J,rv,q⟩:=hq; exact fin J rv q
  | brk=>obtain ⟨_,_,_,q⟩:=hq; exact q.elim
  | cont=>obtain ⟨_,_,_,q⟩:=hq; exact q.elim
end Fx
end
section
set_option maxHeartbeats 4000000
namespace Fx
open PySem PySem.Spec PyProof.Rows L2 LamX
section
variable {X : Cx} {T : Tb} {Wx : WX} {W W' W0 : Wd} {H H' H0 : Hp} {σ : St} {fr fr' : Fr} {h h' : MH} {TT : Tbl} {C : Callee} {f : Bool} {e : Expr}
theorem zgK {l : Nat} {caps : List Nat} {D : LamD} {lpos : Pos} {c Pt : Addr} {nm : Nat→Nat→Str} (ccm : CmOk X T) (TB : TabB X.base X.mg c Pt) (hcode : X.env.code = .ref c) (hq : D.qual=X.env.qual ++ "<lambda>") (hdef : defaultsOf D.params X.env=([],[]))
  (hfree : ∀ y∈D.scope.names,y.2 = .free→y.1∈D.fr) (hfr : ∀ y∈D.fr,(y,NameKind.free)∈D.scope.names) (hca : ∀ i∈caps,∃ a,T.cm.a i=some a) (hcaps : caps.map (fun i=>X.N[i]?)=D.fr.map some)
  (hT : T.tab Pt=some nm) (hn : nm lpos.line lpos.col=D.qual) (hlO : T.lamO l=some (zdl D)) (hlC : T.lamQ l=D.qual) :
  SE X T Wx TT C false (.Lambda D.params D.body D.scope lpos) (.lam l caps):=by
 let as : List Addr:=caps.map fun i=>(T.cm.a i).getD 0
 have hlen : as.length=D.fr.length:=by
  have:=congrArg List.length hcaps
  simpa [as] using this
 have hcap : ∀ (j : Nat) y,D.fr[j]? = some y→∃ i a,caps[j]? = some i∧X.N[i]? = some y∧T.cm.a i=some a∧as[j]? = some a:=fun j y e=>by
  have q:=congrArg (fun z=>z[j]?) hcaps
  simp only [List.getElem?_map,e,Option.map_some] at q
  cases q1 : caps[j]? with
  | none=>rw [q1] at q; cases q
  | some i =>
   rw [q1] at q
   have q : X.N[i]? = some y:=Option.some.inj q
   obtain ⟨a,ha⟩:=hca i (List.mem_of_getElem? q1)
   refine ⟨i,a,rfl,q,ha,?_⟩
   show (caps.map fun i=>(T.cm.a i).getD 0)[j]? = _
   rw [List.getElem?_map,q1]
   show some ((T.cm.a i).getD 0) = _
   rw [ha]; rfl
 have look : ∀ (j : Nat) y,D.fr[j]? = some y→∃ a,as[j]? = some a∧X.env.cells.lookup y=some a:=fun j y e=>by
  obtain ⟨i,a,_,h2,h3,h4⟩:=hcap j y e
  obtain ⟨z,z1,z2,_⟩:=ccm.at_ i a h3
  rw [h2] at z1; cases z1
  exact ⟨a,h4,z2⟩
 have hmake:=pe_lamG (X:=X) (D:=D) (as:=as) (lpos:=lpos) (P:=Pt) (c:=c) (TabB.g TB) hcode hq hdef (fun y hy e=>by
  obtain ⟨j,hj⟩:=List.mem_iff_getElem?.mp (hfree y hy e)
  obtain ⟨a,_,z⟩:=look j _ hj
  exact ⟨a,z⟩) hfree hlen (fun j y e=>⟨hfr y (List.mem_of_getElem? e),look j y e⟩)
 refine PE.wk hmake fun σ H Q ⟨W,fr,h,r,a⟩=>?_
 simp only [ev] at a
 cases q : cellsOf fr caps with
 | none=>rw [q] at a; exact a.elim
 | some cs =>
  rw [q] at a
  obtain ⟨c1,c2⟩:=ziR q
  refine lam_R (G:=gl X T) r trivial (.inl hT) hn fun W1 f k H1 ev1 r1 z1 z2=>a W1 (.ref f) H1 ev1 r1 ?_
  refine Rp.clo (o:=zdl D) (as:=as) (k:=k) hlO ?_ z1 (by show ∃ P2,W1.ct k=some (P2,T.lamQ l); rw [hlC]; exact z2)
  refine List.ext_getElem? fun j=>?_
  rw [List.getElem?_map,List.getElem?_map]
  cases e1 : caps[j]? with
  | none =>
   have e2 : cs[j]? = none:=by
    rw [List.getElem?_eq_none_iff] at e1 ⊢
    omega
   have e3 : as[j]? = none:=by
    show (caps.map fun i=>(T.cm.a i).getD 0)[j]? = _
    rw [List.getElem?_map,e1]; rfl
   rw [e2,e3]; rfl
  | some i =>
   obtain ⟨c',e2,e4⟩:=c2 j i e1
   obtain ⟨a',k1,k2⟩:=r1.k i c' (r1.f.at_ i _ e4)
   rw [e2]
   show some (W1.κ[c']?) = _
   rw [k2]
   show _=Option.map some ((caps.map fun i=>(T.cm.a i).getD 0)[j]?)
   rw [List.getElem?_map,e1]
   show _=some (some ((T.cm.a i).getD 0))
   rw [k1]; rfl
abbrev Tb.bare (T : Tb) : Tb:={ T with cm:=⟨fun _=>none,fun _=>none,T.cm.e,T.cm.k⟩ }
def Wd.blind (W : Wd) (fr : Fr) : Wd:={ W with dd:=fun c=>W.dd c∨∃ i : Nat,fr[i]? = some (Slot.cell c) }
end
end Fx
end
section
set_option maxHeartbeats 4000000
namespace Fx
open PySem PySem.Spec PyProof.Rows L2
def ObsR (G : Glb) (W : Wd) (H : Hp) (h : MH) : Prop:=∀ (a : Nat) o,h.objs[a]? = some o→∃ p,W.ι[a]? = some p∧W.own p=some (.obj a)∧ObR G W H a p o
def WalkG (X : Cx) (T : Tb) (J : It) (W0 : Wd) (g : MH→Prop) (vs : List Val) : Prop:=∀ W H h,Wle W0 W→WH W H→ObsR (gl X T) W H h→g h→(∀ i,i=vs.length→J.stop i H) ∧
 ∀ i v,vs[i]? = some v→J.go i H∧∀ x H',J.yld i H x H'→∃ W',Ext H H'∧Wup W W'∧WH W' H'∧(∀ q,H q≠none→W'.Z q=W.Z q)∧Rp (gl X T) W' v x
theorem zlk.g {X : Cx} {T : Tb} {J : It} {W : Wd} {vs : List Val} {g : MH→Prop} (w : zlk X T J W vs) : WalkG X T J W g vs:=fun W H _ le wh _ _=>w W H le wh
end Fx
end
section
set_option maxHeartbeats 4000000
namespace Fx
open PySem PySem.Spec PyProof.Rows L2
end Fx
end
section
set_option maxHeartbeats 4000000
namespace Fx
open PySem PySem.Spec PyProof.Rows L2
end Fx
end
section
set_option maxHeartbeats 4000000
namespace Fx
open PySem PySem.Spec PyProof.Rows L2
end Fx
end
section
set_option maxHeartbeats 4000000
namespace Fx
open PySem PySem.Spec PyProof.Rows L2
def SqK (K : PySem.W.Frag) (k : Bool) (H : Hp) (a : Addr) (xs : List V) : Prop:=match k with
 | true=>SqT K H a xs
 | false=>SqL K H a xs
def IsK (h : Heap) (k : Bool) (a : Addr) (its : Array Value) : Prop:=match k with
 | true=>h.IsTuple a its
 | false=>h.IsList a its
def ItK (h : Heap) (k : Bool) (it a : Addr) (i : Nat) : Prop:=match k with
 | true=>h.IsTupleIter it a i
 | false=>h.IsListIter it a i
theorem itK_keep {h h' : Heap} {k : Bool} {it a : Addr} {i : Nat} (t : ItK h k it a i) (e : ∀ o,h.get? it=some o→h'.get? it=some o) : ItK h' k it a i:=by
 cases k with
 | true=>obtain ⟨o,q,c,d⟩:=t; exact ⟨o,e o q,c,d⟩
 | false=>obtain ⟨o,q,c,d⟩:=t; exact ⟨o,e o q,c,d⟩
section
variable {X : Cx} {pins : List (Addr × Obj)} {σ : L2.St} {H : Hp} {s : Shared} {k : Bool} {a : Addr} {xs ys : List V}
theorem atK (I : Inv X pins σ H s) (h : SqK X.K k H a xs) : ∃ its : List Value,Vals xs its∧IsK s.heap k a its.toArray∧a < s.heap.objs.size:=by
 cases k with
 | true=>obtain ⟨its,r,p,_⟩:=I.tuple h; obtain ⟨o,ho,_⟩:=id p; exact ⟨its,r,p,Heap.lt_size ho⟩
 | false=>obtain ⟨its,r,p,_⟩:=I.list h; exact ⟨its,r,p.isList,p.lt⟩
end
end Fx
end
section
set_option maxHeartbeats 4000000
namespace Fx
open PySem PySem.Spec PyProof.Rows L2
end Fx
end
section
set_option maxHeartbeats 4000000
namespace Fx
open PySem PySem.Spec PyProof.Rows L2
def ZipStK (h : Heap) (z TI TO i1 i2 : Addr) (k1 k2 : Bool) (a b : Addr) (i : Nat) : Prop :=
 IsTupOf2 h TI (.ref i1) (.ref i2)∧ItK h k1 i1 a i∧ItK h k2 i2 b i∧(∃ o,h.get? TO=some o) ∧
  ((IsZip h z TI TO .none∧∃ x y,IsTupOf2 h TO x y)∨∃ T f oT,IsZipHeld h z TI TO T f∧h.get? T=some oT∧T≠z∧T≠i1∧T≠i2)
section
variable {X : Cx} {pins : List (Addr × Obj)} {σ : L2.St} {H : Hp} {s : Shared} {z TI TO i1 i2 a b : Addr} {k1 k2 : Bool} {xs ys : List V} {i : Nat} {A1 : Around} {E : Value→Shared→Prop}
theorem ZipStK.keep {h h' : Heap} (st : ZipStK h z TI TO i1 i2 k1 k2 a b i) (k : ∀ c o,h.get? c=some o→∃ o',h'.get? c=some o') (kk : ∀ c∈[z,TI,TO,i1,i2],∀ o,h.get? c=some o→h'.get? c=some o) : ZipStK h' z TI TO i1 i2 k1 k2 a b i:=by
 obtain ⟨hTI,h1,h2,⟨oo,hO⟩,hz⟩:=st
 refine ⟨kk TI (by simp) _ hTI,itK_keep h1 fun o q=>kk i1 (by simp) o q,itK_keep h2 fun o q=>kk i2 (by simp) o q,⟨oo,kk TO (by simp) _ hO⟩,?_⟩
 rcases hz with ⟨hz,x,y,hp⟩ | ⟨T,f,oT,hz,hT,n1,n2,n3⟩
 ·exact .inl ⟨kk z (by simp) _ hz,x,y,kk TO (by simp) _ hp⟩
 ·obtain ⟨o',e'⟩:=k T oT hT
  exact .inr ⟨T,f,o',kk z (by simp) _ hz,e',n1,n2,n3⟩
end
end Fx
end
section
set_option maxHeartbeats 4000000
namespace Fx
open PySem PySem.Spec PyProof.Rows L2 RZ
theorem SqK.le {K : PySem.W.Frag} {k : Bool} {H H' : Hp} {a : Addr} {xs : List V} (e : Ext H H') (h : SqK K k H a xs) : SqK K k H' a xs:=by
 cases k with
 | true=>exact SqT.le e h
 | false=>exact SqL.le e h
end Fx
end
section
set_option maxHeartbeats 4000000
namespace Fx
open PySem PySem.Spec PyProof.Rows L2
end Fx
end
section
set_option maxHeartbeats 4000000
namespace HT
open PySem PySem.Spec PyProof PyProof.Rows
end HT
namespace L2
open PySem PySem.Spec PyProof.Rows
end L2
end
section
set_option maxHeartbeats 4000000
namespace Fx
open PySem PySem.Spec PyProof.Rows L2
section
variable {G0 : Glb} {X : Cx} {T : Tb} {Wx : WX} {E : En} {W W1 W' : Wd} {H H1 H' : Hp} {σ : St} {fr fr1 : Fr} {h h1 : MH} {e a b c : Expr} {pos pos' apos spos py : Pos} {TT : Tbl} {C Cc : Callee} {f f2 : Bool} {tg tg2 : Expr}
theorem Rps.reverse {G : Glb} {W : Wd} : ∀ {l : List Val} {vs : List V},Rps G W l vs→Rps G W l.reverse vs.reverse
 | _,_,.nil=>.nil
 | _,_,.cons r t=>by rw [List.reverse_cons,List.reverse_cons]; exact (Rps.reverse t).append (.cons r .nil)
theorem zpN {v y w : Val} (e : zlc v y=some w) : ∃ l r,v = .lst l∧y = .lst r∧w = .lst (l ++ r)∧(l ++ r).length≤sizeLine:=by
 cases v with
 | lst l=>cases y with
  | lst r =>
   obtain ⟨rfl,hl⟩:=zfE e
   exact ⟨l,r,rfl,rfl,rfl,hl⟩
  | _=>cases e
 | _=>cases e
theorem zgI {p : Plc} {y : Exp} (hp : SO X T Wx TT C a (odP p)) (hy : SE X T Wx TT C true b y)
  (hbase : attributeBase a "extend" X.env (eval a X.env)=eval a X.env:=by rfl)
  (hfew : ((PySem.backTo pos (starEach [b] X.env)).all (fun x=>!x.1) && (backToKw pos (keywordEach [] X.env)).all (fun x=>x.1.isSome)
   && decide (([b] : List Expr).length + ([] : List Keyword).length + (if ([] : List Keyword).isEmpty then 0 else 1) < 30))=true:=by rfl)
  (hline : (apos.endLine == pos.line)=true:=by rfl) (hs : starEach [b] X.env=(false,eval b X.env) :: starEach [] X.env:=by rfl) (hplain : (PySem.backTo pos (starEach [] X.env)).any (·.1)=false:=by rfl)
  (hsw : swapsWith (.Call (.Attribute a "extend" apos) [b] [] pos) none pos'.line X.env=pure false:=by rfl) :
  SS X T Wx E TT C (.Expr (.Call (.Attribute a "extend" apos) [b] [] pos) pos') (.extend p y):=by
 refine zkh (ps_expr (pe_bm PySem.F.plainAttrs_list PySem.F.slot_list_extend PySem.F.type_list_extend mt_extend hp (pa_cons hy pa_nil hs) hbase hfew hline hs hplain) hsw) fun D σ H ⟨W,fr,h,r,k,ev,a⟩=>?_
 simp only [ex] at a
 refine ⟨W,fr,h,r,chgE r k a fun x H1 W1 fr1 h1 o ev1 r1 ov kx a=>?_⟩
 obtain ⟨l0,lk⟩:=kx
 refine ⟨tyV_lst lk,W1,fr1,h1,r1,ofE (Rel:=ResR (gl X T) true H1) k a fun z H2 W2 v fr2 h2 ev2 r2 rz a=>?_⟩
 obtain ⟨q,v0,w,rfl,cu,e,kk⟩:=sto r2 (OvR.evo ev2 ov) k (AfS.evo a ev2)
 obtain ⟨l,r,rfl,rfl,rfl,hl⟩:=zpN e
 obtain ⟨b,rfl,hn,z1,z2,us,hb,rb⟩:=fresh_of rfl rz
 obtain ⟨vs,hq,rv⟩:=cu
 exact ⟨q,b,vs,us,rfl,rfl,hq,hb,by rw [← rv.length,← rb.length,← List.length_append]; exact hl,kk _ ⟨_,upd_same,rv.append rb⟩⟩
end
end Fx
end
section
set_option maxHeartbeats 4000000
namespace Fx
open PySem PySem.Spec PyProof.Rows L2
end Fx
end
section
set_option maxHeartbeats 4000000
namespace Fx
open PySem PySem.Spec PyProof.Rows L2
end Fx
end
section
set_option maxHeartbeats 4000000
namespace Fx
open PySem PySem.Spec PyProof.Rows L2
end Fx
end
section
set_option maxHeartbeats 4000000
namespace Fx
open PySem PySem.Spec PyProof.Rows L2
section
variable {G0 : Glb} {X : Cx} {T : Tb} {Wx : WX} {E : En} {W W1 W' : Wd} {H H1 H' : Hp} {σ : St} {fr fr1 : Fr} {h h1 : MH} {e a b c : Expr} {pos pos' apos spos py : Pos} {TT : Tbl} {C Cc : Callee} {f f2 : Bool} {tg tg2 : Expr}
theorem ix_seq {n : Nat} {k : Int} {j : Nat} (e : ixAt n k=some j) : seqIndex? k n=some j:=by
 unfold ixAt at e
 unfold seqIndex?
 by_cases h : 0≤k
 ·rw [if_pos h] at e
  by_cases h2 : k < n
  ·rw [if_pos h2] at e
   cases e
   have : ¬ k < 0:=by omega
   simp only [if_neg this,decide_eq_true h,decide_eq_true h2,Bool.and_self,if_true]
  ·rw [if_neg h2] at e; cases e
 ·rw [if_neg h] at e
  by_cases h2 : -(n : Int)≤k
  ·rw [if_pos h2] at e
   cases e
   have h3 : k < 0:=by omega
   simp only [if_pos h3,decide_eq_true (show 0≤k + n by omega),decide_eq_true (show k + n < n by omega),Bool.and_self,if_true]
  ·rw [if_neg h2] at e; cases e
end
end Fx
end
section
set_option maxHeartbeats 4000000
namespace Fx
open PySem PySem.Spec PyProof.Rows L2
end Fx
end
section
set_option maxHeartbeats 4000000
namespace Fx
open PySem PySem.Spec PyProof.Rows L2
end Fx
end
section
set_option maxHeartbeats 4000000
namespace Fx
open PySem PySem.Spec PyProof.Rows L2
end Fx
end
section
set_option maxHeartbeats 4000000
namespace Fx
open PySem PySem.Spec PyProof.Rows L2 RZ
theorem KN.vals : ∀ {es : List NE} {vs : List (NestedKey × Addr × Value)},KN es vs→Vals (es.map fun e=>e.2.2) (vs.map fun e=>e.2.2)
 | _,_,.nil=>.nil
 | _,_,.cons r t=>.cons r.2.2 (KN.vals t)
end Fx
end
section
set_option maxHeartbeats 4000000
namespace Fx
open PySem PySem.Spec PyProof.Rows L2
end Fx
end
section
set_option maxHeartbeats 4000000
namespace Fx
open PySem PySem.Spec PyProof.Rows L2
end Fx
end
section
set_option maxHeartbeats 4000000
namespace Fx
open PySem PySem.Spec PyProof.Rows L2
end Fx
end
section
set_option maxHeartbeats 4000000
namespace Fx
open PySem PySem.Spec PyProof.Rows L2
end Fx
end
section
set_option maxHeartbeats 4000000
namespace Fx
open PySem PySem.Spec PyProof.Rows L2 LamX
abbrev Tb.blk (T : Tb) (n : Nat) (ks : List Nat) (as : List Addr) : Tb:={ T with cm:=⟨fun i=>if i∈ks then some (n + ks.idxOf i) else none,fun i=>if i∈ks then as[ks.idxOf i]? else none,T.cm.e,T.cm.k⟩ }
section
variable {X : Cx} {T : Tb} {Wx : WX} {W W1 W' W0 : Wd} {H H1 H' H0 : Hp} {σ σ0 : St} {fr fr1 : Fr} {h h1 : MH} {e a b c : Expr} {pos : Pos} {TT : Tbl} {C Cc : Callee} {f : Bool} {tg : Expr}
theorem RX.clear {j d : Nat} (r : RX X T W H fr σ h) (hj : fr[j]? = some (.cell d)) (hw : L2.wipe σ [j]=L2.wipe σ0 [j]) : RX X T W H fr (L2.wipe σ0 [j]) { h with cells:=h.cells.set d Option.none }:=by
  rw [← hw]
  have sg : ∀ i : Nat,i≠j→(L2.wipe σ [j])[i]? = σ[i]?:=fun i ne=>by
    show (σ.set j none)[i]? = _
    rw [List.getElem?_set_ne (Ne.symm ne)]
  have old : ∀ {c : Nat} {v : Val},(h.cells.set d Option.none)[c]? = some (some v)→c≠d∧h.cells[c]? = some (some v):=fun {c v} e=>by
    by_cases z : d=c
    · subst z
      by_cases hd : d < h.cells.length
      · rw [List.getElem?_set_self hd] at e; cases e
      · rw [List.getElem?_eq_none (by rw [List.length_set]; omega)] at e; cases e
    · rw [List.getElem?_set_ne z] at e
      exact ⟨Ne.symm z,e⟩
  refine ⟨⟨by rw [L2.wipe_length]; exact r.f.len,fun i s e=>?_,r.f.inj⟩,⟨r.h.zin,r.h.fin,r.h.oin,r.h.uni,r.h.oas,r.h.asn,r.h.lι,⟨r.h.lk.1.trans (List.length_set ..).symm,fun c v e n=>r.h.lk.2 c v (old e).2 n⟩,r.h.objs,fun c v e=>?_,r.h.x⟩,r.kk⟩
  · by_cases z : i=j
    · subst z
      rw [hj] at e; cases e
      exact r.f.at_ i _ hj
    · exact zbO.other (sg i z) (r.f.at_ i s e)
  · obtain ⟨ne,e⟩:=old e
    rcases r.h.cells c v e with ⟨i,x,k1,k2,k3⟩ | q
    · refine .inl ⟨i,x,k1,?_,k3⟩
      rw [sg i (fun z=>by subst z; rw [hj] at k1; cases k1; exact ne rfl)]
      exact k2
    · exact .inr q
variable {elt iter : Expr} {scope : Scope} {j : Nat} {ks : List Nat} {yj : Str} {x : Exp} {it : Iter} {py spos : Pos} {E : En}
end
end Fx
end
section
set_option maxHeartbeats 4000000
namespace Fx
open PySem PySem.Spec PyProof.Rows L2 LamX
abbrev Tb.js (T : Tb) (us : List Nat) : Nat→Option Addr:=fun i=>if i∈us then T.cm.a i else none
section
variable {X : Cx} {T : Tb} {W W' : Wd} {H H' H2 : Hp} {σ : St} {fr fr' : Fr} {h h' : MH} {us : List Nat} {S : Cells}
def Wd.bl (W' : Wd) (us : List Nat) (fr : Fr) : Wd:={ W' with dd:=fun c=>W'.dd c∨∃ i,i∈us∧fr[i]? = some (Slot.cell c) }
section
variable (r : RX X T W H fr σ h) (hu : us.all (fun i=>isCellS fr[i]?)=true) (cs : CellsAt (T.js us) σ H S) (ev : Evo (W.blind (lessF us fr)) (seen H S) W' H2)
include r hu cs ev
end
end
end Fx
end
section
set_option maxHeartbeats 4000000
namespace Fx
open PySem PySem.Spec PyProof.Rows L2
end Fx
end
section
set_option maxHeartbeats 4000000
namespace Fx
open PySem PySem.Spec PyProof.Rows L2
end Fx
end
section
set_option maxHeartbeats 4000000
namespace Fx
open PySem PySem.Spec PyProof.Rows L2
end Fx
end
section
set_option maxHeartbeats 4000000
namespace Fx
open PySem PySem.Spec PyProof.Rows L2

section
variable {X : Cx} {T : Tb} {f : Bool} {e : PySem.Expr} {m : Fr→MH→Res Val} {Wx : WX}
theorem takes_blk {s : Shared} {H : Hp} {sc : Scope} {ev : Env} {fp : List Addr} : Takes (X.blk s H sc ev fp) WF:=fun u s' h=>by
 obtain ⟨_,_,_,_,_,_,_,_,_,_,_,_,_,_,_,_,q⟩:=h
 exact q.elim
theorem zdw (h : ∀ i,T.cm.a i=none) : CmOk X T:=⟨fun i a e=>by rw [h i] at e; cases e⟩
theorem hu_1 {u : Nat} (h : u + 65 < cLine) : u + 9 < cLine:=by omega
theorem znW {u : Nat} (h : u + 65 < cLine) : u + 64 < cLine:=by omega
def nmAt (l : List Str) (g : Nat) : Str:=l.getD g ""
theorem nm_inj {l : List Str} (nd : l.Nodup) (no : ("" : Str) ∉ l) {g : Nat} (hg : g < l.length) : ∀ k,nmAt l k=nmAt l g→k=g:=fun k e=>by
 unfold nmAt at e
 by_cases hk : k < l.length
 ·rw [List.getD_eq_getElem?_getD,List.getD_eq_getElem?_getD,List.getElem?_eq_getElem hk,List.getElem?_eq_getElem hg] at e
  exact (List.getElem_inj nd).mp e
 ·rw [List.getD_eq_getElem?_getD,List.getD_eq_getElem?_getD,List.getElem?_eq_none (by omega),List.getElem?_eq_getElem hg] at e
  exact absurd (by rw [show ("" : Str)=l[g] from e]; exact List.getElem_mem hg) no
theorem nm_ne {l : List Str} {m : Str} (h1 : m ∉ l) (h2 : m≠"") : ∀ f,nmAt l f≠m:=fun f e=>by
 unfold nmAt at e
 by_cases hk : f < l.length
 ·rw [List.getD_eq_getElem?_getD,List.getElem?_eq_getElem hk] at e
  exact h1 (by rw [← e]; exact List.getElem_mem hk)
 ·rw [List.getD_eq_getElem?_getD,List.getElem?_eq_none (by omega)] at e
  exact h2 e.symm
end

def blkB (N : List Str) (sc scope : Scope) (own : List (Str × Nat)) : Bool :=
 decide (scope.kind = .function) && ((scope.names.all fun y=>decide (scope.names.lookup y.1=some y.2)) && ((own.all fun p=>decide (N[p.2]? = some p.1)) &&
  ((scope.names.all fun y=>!decide (y.2 = .free) || (decide (sc.names.lookup y.1=some .cell) || decide (sc.names.lookup y.1=some .free))) &&
   scope.names.all fun y=>!(decide (y.2 = .local) || decide (y.2 = .cell)) || (decide (y.1∈own.map (·.1)) || !decide (y.1∈N)))))
theorem blk_of {N : List Str} {sc scope : Scope} {own : List (Str × Nat)} (h : blkB N sc scope own=true) : BlkOk N sc scope own:=by
 unfold blkB at h
 rw [Bool.and_eq_true_iff,Bool.and_eq_true_iff,Bool.and_eq_true_iff,Bool.and_eq_true_iff] at h
 obtain ⟨h1,h2,h3,h4,h5⟩:=h
 refine ⟨of_decide_eq_true h1,fun y hy=>of_decide_eq_true (List.all_eq_true.mp h2 y hy),fun p hp=>of_decide_eq_true (List.all_eq_true.mp h3 p hp),fun y hy e=>?_,fun y hy e=>?_⟩
 ·have:=List.all_eq_true.mp h4 y hy
  rw [e] at this
  simpa using this
 ·have:=List.all_eq_true.mp h5 y hy
  have e2 : (decide (y.2 = .local) || decide (y.2 = .cell))=true:=by
   rw [Bool.or_eq_true_iff]
   rcases e with e | e
   ·exact .inl (decide_eq_true e)
   ·exact .inr (decide_eq_true e)
  rw [e2] at this
  simpa using this

end Fx
end
section
set_option maxHeartbeats 4000000
namespace Fx
open PySem PySem.Spec PyProof.Rows L2
def fdOf (K : PySem.W.Frag) (a : Addr) : FuncData:=match K.lookup a with
 | some ⟨_,_,.func fd,_⟩=>fd
 | _=>PySem.W.fnOf "" "" { posonlyargs:=[],args:=[],vararg:=none,kwonlyargs:=[],kw_defaults:=[],kwarg:=none,defaults:=[] } [] { kind:=.function,names:=[],isGenerator:=false,isCoroutine:=false } .none .none .none .none none .none .none
theorem fdOf_eq {K : PySem.W.Frag} {x qual : Str} {params : Arguments} {body : List Stmt} {scope : Scope} {dvs : List V} {kws : List (Str × V)} {f : Addr} {fd : FuncData} (F : FunD K x qual params body scope dvs kws f fd) : fdOf K f=fd:=by
 obtain ⟨oc,od,dV,kV,doc,pm,an,cdv,ct,osl,_,lk,_⟩:=F.ex
 unfold fdOf
 rw [lk]
theorem zgs {K : PySem.W.Frag} {x qual : Str} {params : Arguments} {body : List Stmt} {scope : Scope} {dvs : List V} {kws : List (Str × V)} {f : Addr} (F : ∃ fd,FunD K x qual params body scope dvs kws f fd) : FunD K x qual params body scope dvs kws f (fdOf K f):=by
 obtain ⟨fd,F⟩:=F
 rw [fdOf_eq F]; exact F
abbrev gOf (P : Program) (w : World) (K : PySem.W.Frag) (T : Tb) : Glb:=⟨P,w,K,T.fnA,T.clsA,T.fldN,T.lamO,T.lamQ,T.tab,T.exV⟩
abbrev Fk (P : Program) (w : World) (K : PySem.W.Frag) (mg : Str→Option Value) (base : Heap) (T : Tb) (TT : Tbl) (n k g : Nat) (a : Addr) (ps : List Str) (d : Def) : Prop :=
 FnOk P w K mg base (L2.CX P w) k a (fdOf K a) ps (zcF (gOf P w K T) T.ExR (call TT n) (isFn g) d.fresh d.lent)
theorem OutR.up {G : Glb} {W W' : Wd} {H : Hp} {lent : List Nat} {outs : List Slot} {vs : List V} (u : Wup W W') (o : OutR G W H lent outs vs) : OutR G W' H lent outs vs:=by
 intro j hj s x e1 e2
 have k:=o j hj s x e1 e2
 cases s with
 | val v=>exact Rp.le u.le (show Rp G W v x from k)
 | own v=>obtain ⟨p,a,b,c⟩:=k; exact ⟨p,a,by rw [u.own]; exact b,c.up u.le⟩
 | _=>trivial
theorem zgt {P : Program} {w : World} {K : PySem.W.Frag} {mg : Str→Option Value} {base : Heap} {T : Tb} {TT : Tbl} {k g : Nat} {a : Addr} {ps : List Str} {d : Def} : Fk P w K mg base T TT 0 k g a ps d:=by
 refine ⟨fun vs H Q E q=>?_,fun A outer s H args us vs Q E _ _ _ _ q=>?_⟩
 ·obtain ⟨W,ss,h,t,rfl,hR,ar,hsl,hsb,m⟩:=q
  exact m.elim
 ·obtain ⟨W,ss,h,t,rfl,hR,ar,hsl,hsb,m⟩:=q
  exact m.elim
theorem zd6 {P : Program} {w : World} {K : PySem.W.Frag} {mg : Str→Option Value} {base : Heap} {TT : Tbl} {k l : Nat} {D : LamD} {G : Glb} {ExR : Wd→Hp→Nat→Option Val→Value→Option Addr→Prop} : zhu P w K mg base k D (fun as kc=>zcF G ExR (call TT 0) (zhh l as kc D.qual) false []) :=
 ⟨fun A outer s H f kc as us vs Q E _ _ _ _ _ q=>by
  obtain ⟨W,ss,h,t,ht,hR,ar,hsl,hsb,m⟩:=q
  exact m.elim⟩
theorem fn_D {P : Program} {w : World} {K : PySem.W.Frag} {mg : Str→Option Value} {base : Heap} {T : Tb} {TT : Tbl} {n g k : Nat} {d : Def} {f : Addr} {name qual : Str} {params : Arguments} {body : List Stmt} {scope : Scope} {dvs : List V} {kws : List (Str × V)} {N ps : List Str}
  (ok : ExOk T) (hcm : NoCm T) (F : FunD K name qual params body scope dvs kws f (fdOf K f)) (S : FnScope N ps scope)
  (hd : TT.defs g=some d) (hp : d.params=ps.length) (hs : d.slots=N.length) (hc : d.caps = 0) (h1 : d.za1 = []) (h2 : d.cells = [])
  (hbody : ∀ (cdv : Value) (A : Around) (outer : List Env) (s : Shared) (H : Hp) (E : XK) (En : En),Room k (A.deeper (envOfC qual scope s.heap.objs.size f cdv))→En.fr=d.fresh→En.lent=d.lent →
   SSs (cxOf (L2.CX P w) P w K mg base N qual scope f cdv A outer s H E) T (WE' E) En TT (call TT n) body d.body) :
  Fk P w K mg base T TT (n + 1) (k + 1) g f ps d:=by
 obtain ⟨oc,od,dV,kV,doc,pm,an,cdv,ct,osl,e,lk,hcd,_,_⟩:=F.ex
 unfold Fk
 rw [e] at lk ⊢
 exact fx_fn rfl ok hcm lk hcd S hd hp hs hc h1 h2 fun A outer s H E En=>hbody cdv A outer s H E En
section
variable {K : PySem.W.Frag} {x qual : Str} {params : Arguments} {body : List Stmt} {scope : Scope} {kws : List (Str × V)} {f : Addr} {fd : FuncData} {ps : List Str}
theorem zrq (F : FunD K x qual params body scope [] kws f fd)
  (h : ∀ (kV doc pm : Value) (an : Option Addr) (cdv ct : Value) (us : List Value),us.length=ps.length→bindArgs (PySem.W.fnOf x qual params body scope .none kV doc pm an cdv ct) ⟨us,[]⟩ = pure (ps.zip us)) : Bnd K fd ps ps.length [] id:=by
 refine ⟨fun s us ws vs zs kin hv hz e1 e2=>?_⟩
 have hz0 : zs = []:=List.length_eq_zero_iff.mp e2
 subst hz0
 refine ⟨us,by simpa using hv,?_⟩
 have:=FunD.bindsA F h s us (by rw [← hv.length,e1])
 simpa using this
end
def znM (e : Expr) (qual : Str) (fr : List Str) : LamD:=match e with
 | .Lambda params body scope _=>⟨qual,params,body,scope,fr⟩
 | _=>⟨qual,{ posonlyargs:=[],args:=[],vararg:=none,kwonlyargs:=[],kw_defaults:=[],kwarg:=none,defaults:=[] },.Constant .none 0 ⟨0,0,0,0⟩,{ kind:=.function,names:=[],isGenerator:=false,isCoroutine:=false },fr⟩
theorem nm_out {l : List Str} {g : Nat} (h : l.length≤g) : nmAt l g = "":=by
 unfold nmAt
 rw [List.getD_eq_getElem?_getD,List.getElem?_eq_none h]
 rfl
theorem zbS {k : Nat} {A : Around} (r : Room k A) : A.units + 65 < cLine:=by
 have:=r.un
 omega
theorem fn_DC {P : Program} {w : World} {K : PySem.W.Frag} {mg : Str→Option Value} {base : Heap} {T : Tb} {TT : Tbl} {n g k : Nat} {d : Def} {p : He.Defn} {name qual : Str} {params : Arguments} {body : List Stmt} {scope : Scope} {dvs : List V} {kws : List (Str × V)} {N ps : List Str} {pcl lcl : List Nat}
  (ok : ExOk T) (hcm : NoCm T) (F : FunD K name qual params body scope dvs kws (He.fAd K p) (fdOf K (He.fAd K p))) (S : FnScope N ps scope)
  (hd : TT.defs g=some d) (hp : d.params=ps.length) (hs : d.slots=N.length) (hc : d.caps = 0) (h1 : d.za1=pcl) (h2 : d.cells=lcl) (h3 : d.esc=false)
  (nd : (pcl ++ lcl).Nodup) (hpc : ∀ i∈pcl,i < ps.length) (hlc : ∀ i∈lcl,i < N.length) (hcell : ((pcl ++ lcl).all fun i=>match N[i]? with | some y=>decide (scope.names.lookup y=some .cell) | none=>true)=true)
  (hbody : ∀ (A : Around) (outer : List Env) (s : Shared) (H : Hp) (E : XK) (En : En) (cm : Cm),Room k (A.deeper (envOfC qual scope s.heap.objs.size (He.fAd K p) (.ref (He.cT K p).1)))→En.fr=d.fresh→En.lent=d.lent →
   CmOk (cxOf (L2.CX P w) P w K mg base N qual scope (He.fAd K p) (.ref (He.cT K p).1) A outer s H E) { T with cm:=cm }→(∀ i,i ∉ pcl ++ lcl→cm.c i=none)→(∀ i∈pcl ++ lcl,∃ a,cm.a i=some a) →
   SSs (cxOf (L2.CX P w) P w K mg base N qual scope (He.fAd K p) (.ref (He.cT K p).1) A outer s H E) { T with cm:=cm } (WE' E) En TT (call TT n) body d.body) :
  Fk P w K mg base T TT (n + 1) (k + 1) g (He.fAd K p) ps d:=by
 obtain ⟨oc,od,dV,kV,doc,pm,an,cdv,ct,osl,e,lk,hcd,_,_⟩:=F.ex
 obtain ⟨c,rfl⟩:=He.codeIn_ref hcd
 have hc' : He.codeOf K p=c:=He.codeOf_eq lk (by rw [e])
 obtain rfl : c=(He.cT K p).1:=by rw [← hc']; rfl
 unfold Fk
 rw [e] at lk ⊢
 exact fx_fnC rfl ok hcm lk hcd S hd hp hs hc h1 h2 h3 nd hpc hlc (fun i hi y e=>by
  have z:=List.all_eq_true.mp hcell i hi
  rw [e] at z
  exact of_decide_eq_true z) hbody
theorem zqu {X : Cx} {T : Tb} {Wx : WX} {E : En} {TT : Tbl} {C : Callee} {st : Stmt} {x : Exp} {i : Nat} (h : PS X st (tAsg (tE X T Wx true (ev TT C x)) (gName i))) (hl : i ∉ E.lent) : SS X T Wx E TT C st (.setO i x):=ss_setO h (fun _ _ _ z=>z) hl
end Fx
end
section
set_option maxHeartbeats 4000000
namespace Xi
open PySem PySem.Spec PyProof.Rows L2
def XiV.e1 (v : XiV) : Expr:=.Call (.Attribute (.Call (.Name "super" (v.p 0)) [] [] (v.p 1)) "__init__" (v.p 2)) [.Constant (.str v.tx) v.j v.pc] [] (v.p 3)
def XiV.st1 (v : XiV) : Stmt:=.Expr v.e1 (v.p 4)
def XiV.st2 (v : XiV) : Stmt:=.Assign [.Attribute (.Name v.s0 (v.p 5)) v.fl (v.p 6)] (.Name v.x0 (v.p 7)) (v.p 8)
def XiV.fd (v : XiV) : FuncData:=PySem.W.fnX v.nm v.qn ⟨[],[⟨v.s0,v.a1,v.q1⟩,⟨v.x0,v.a2,v.q2⟩],none,[],[],none,[]⟩ [v.st1,v.st2] v.sc [("__class__",v.cc)] .none v.kV v.doc v.pm v.an (.ref v.cda) v.ct
def XiV.env (v : XiV) (L f : Addr) : Env:=callEnv v.fd L f
structure XiS (v : XiV) : Prop where
 sup : v.sc.names.lookup ("super" : Str)=some .globalImplicit
 cls : v.sc.names.lookup ("__class__" : Str)=some .free
 slf : v.sc.names.lookup v.s0=some .local
 par : v.sc.names.lookup v.x0=some .local
 ne : v.s0≠v.x0
 nd1 : (v.s0 == ("__debug__" : Str))=false
 nd2 : (v.x0 == ("__debug__" : Str))=false
 kind : v.sc.kind = .function
 gen : v.sc.isGenerator=false
 co : v.sc.isCoroutine=false
 nocell : ∀ x∈v.sc.names,x.2≠.cell
 line : ((v.p 2).endLine == (v.p 3).line)=true
section
open PySem.W PySem.Calls
variable {prog : Program} {w : World} {A : Around} {E : Value→Shared→Prop} {K : PySem.W.Frag} {hp : Heap} {g : Array GenState} {d : Drawn} {t : Nat} {os : OsState} {mg mb : Str→Option Value}
variable {nm q : Str} {C N : Addr} {bs bm : List Value} {sn : List Str} {sub : List Value} {ab : Bool} {col : Option Bool} {dd : Option Addr} {k0 k1 k2 k3 k5 : Option Value}
theorem xi_bound {u e t0 : Addr} {rest : List Value} {Q : Value→Shared→Prop} (hC : hp.get? C=some (excClassObj nm q C N bs bm true sn sub ab col dd k0 k1 k2 k3 k5 "ValueError.__new__")) (he : hp.get? e=some (excRec (.ref C) t0 none .none .none (.bool false)))
  (hu : hp.get? u=some (kxs_mw "ValueError.__init__" e)) (hz : rest.length≤sizeLine)
  (hq : ∀ h',(∀ b o,b≠e→hp.get? b=some o→h'.get? b=some o)→h'.get? e=some (excRec (.ref C) hp.objs.size none .none .none (.bool false))→hp.objs.size < h'.objs.size→Q .none ⟨h',g,d,t,os⟩) :
  wpAny (model prog w) A (call (.ref u) rest) Q E ⟨hp,g,d,t,os⟩:=by
 have VF:=PySem.F.excBase_ValueError
 have isM : (Value.type "method-wrapper" == Value.type "method" || Value.type "method-wrapper" == Value.type "builtin_function_or_method" || Value.type "method-wrapper" == Value.type "method-wrapper")=true:=by decide
 have notM : (Value.type "method-wrapper" != Value.type "method")=true:=by decide
 refine wpAny_call (codeAny_of_tree ?_)
 show wpAny _ A.in1 (callAny (.ref u) { pos:=rest }) _ _ _
 unfold callAny
 refine wpAny_bind (wpAny_load hu ?_)
 simp only [kxs_mw,isM,if_true]
 refine KFB.if_so notM ?_
 refine wpAny_bind (check_bound_init VF.toExcCallFacts hC he rfl ?_)
 refine wpAny_bind (wpAny_pure (wpAny_pure ⟨plainId_quiet VF.init.plain _,?_⟩))
 refine codeAny_builtin VF.initEntry ?_
 refine exc_init_tree he hz fun h' hk he' ht=>?_
 exact hq h' hk he' (Heap.lt_size ht)
theorem xi_meth {L f : Addr} {v : XiV} {c : Code} {Q : Value→Shared→Prop} {s : Shared} (hl : ((v.p 2).endLine == (v.p 3).line)=true)
  (h : _root_.PySem.wpAt (model prog w) A c (attributeBase (.Call (.Name "super" (v.p 0)) [] [] (v.p 1)) "__init__" (v.env L f) (eval (.Call (.Name "super" (v.p 0)) [] [] (v.p 1)) (v.env L f))) (fun ov s1 =>
   ∀ pl,wpAny (model prog w) A (getMethod ov "__init__" pl) (fun fx s2=>wpAny (model prog w) A (callWith (v.p 3) fx.1 fx.2 (backTo (v.p 3) (starEach [.Constant (.str v.tx) v.j v.pc] (v.env L f))) []) Q E s2) E s1) E s) :
  _root_.PySem.wpAt (model prog w) A c (eval v.e1 (v.env L f)) Q E s:=by
 show _root_.PySem.wpAt (model prog w) A c (do
  let ov ← attributeBase (.Call (.Name "super" (v.p 0)) [] [] (v.p 1)) "__init__" (v.env L f) (eval (.Call (.Name "super" (v.p 0)) [] [] (v.p 1)) (v.env L f))
  standAt (v.p 2).atName
  methodCall (.Call (.Name "super" (v.p 0)) [] [] (v.p 1)) "__init__" (v.p 2) (v.p 3) (v.env L f) ov 1 (backTo (v.p 3) (starEach [.Constant (.str v.tx) v.j v.pc] (v.env L f))) []) Q E s
 refine _root_.PySem.wpAt_bind (ks_wpAt_mono h (fun ov s1 h1=>_root_.PySem.wpAt_of_wpAny (wpAny_bind (wpAny_standAt ?_))) fun _ _ x=>x)
 have few : methodCallForm 1 (backTo (v.p 3) (starEach [.Constant (.str v.tx) v.j v.pc] (v.env L f))) []=true:=rfl
 unfold methodCall calleeOf
 rw [few]
 refine wpAny_bind (wpAny_holding (wpAny_mono (h1 _) (fun fx s2 h2=>?_) fun _ _ x=>x))
 unfold methodCallPos
 rw [show (!true || (v.p 2).endLine == (v.p 3).line)=true from by rw [hl]; rfl,if_pos rfl]
 exact wpAny_bind (wpAny_pure h2)
structure XiK (prog : Program) (K : PySem.W.Frag) (C f : Addr) (v : XiV) : Prop where
 sc : XiS v
 lk : ∃ oc od osl,K.lookup f=some ⟨oc,od,.func v.fd,osl⟩
 code : ∃ c1 c2 vs c3 file tf,K.lookup v.cda=some ⟨c1,c2,.fields vs,c3⟩∧vs[2]? = some (.str file tf)∧((prog.main.file : Str) == file)=true
 cin : codeIn K (.ref v.cda) v.qn=true
 cell : ∃ c1 c2 c3,K.lookup v.cc=some ⟨c1,c2,.cell (some (.ref C)),c3⟩
 top : (prog.main.scope.names.lookup ("super" : Str)).isSome=false
 cls : ∃ nm q N bs bm sn sub ab col dd k0 k1 k2 k3 k5,K.lookup C=some (excClassObj nm q C N bs bm true sn sub ab col dd k0 k1 k2 k3 k5 "ValueError.__new__")∧PySem.HandSPX.refsVE bm=true∧alongIn K "__init__" bm=some (some (.builtin "ValueError.__init__"))
 opq : nsIn K cStatics "thirdparty.any" = some none
 ve : subIn K (.ref C) (.type "ValueError")=some true
 own : mroIn K C (.ref C)=some true
 sa : findIn K (.ref C) "__setattr__" = some (some (.builtin "object.__setattr__"))
 fno : findIn K (.ref C) v.fl=some none
 ini : findIn K (.ref C) "__init__" = some (some (.ref f))
 tyF : typeIn K (.ref f)=some (.type "function")
theorem xi_body {f e t0 L : Addr} {v : XiV} {u : Value} {Q : Flow→Shared→Prop} (Y : XiK prog K C f v) (X : K.In hp) (XK : ∀ h' : Heap,(∀ b o,b≠e→hp.get? b=some o→h'.get? b=some o)→K.In h') (hns : hp.Ns L (fun x=>[(v.s0,.ref e),(v.x0,u)].reverse.lookup x))
  (hg : hp.Ns mainGlobals mg) (hb : hp.Ns builtinsNs mb) (hms : mg "super" = none) (hbs : mb "super" = some (.type "super"))
  (he : hp.get? e=some (excRec (.ref C) t0 none .none .none (.bool false)))
  (hq : ∀ h' t' t1 dx,(∀ b o,b≠e→hp.get? b=some o→h'.get? b=some o)→hp.objs.size≤dx→dx≠e→h'.get? e=some (excRec (.ref C) t1 (some dx) .none .none (.bool false)) →
   h'.Ns1 dx (fun y=>if y=v.fl then some u else none)→Q .next ⟨h',g,d,t',os⟩) :
  _root_.PySem.wpAt (model prog w) A (.func [v.st1,v.st2] (v.env L f)) (execs [v.st1,v.st2] (v.env L f)) Q E ⟨hp,g,d,t,os⟩:=by
 obtain ⟨oc,od,osl,lk⟩:=Y.lk
 obtain ⟨c1,c2,vs,c3,file,tf,hcode,hvs,hfile⟩:=Y.code
 obtain ⟨d1,d2,d3,hcell⟩:=Y.cell
 obtain ⟨nm,q,N,bs,bm,sn,sub,ab,col,dd,k0,k1,k2,k3,k5,hCl,hbm,hal⟩:=Y.cls
 have S:=Y.sc
 have hC:=X _ _ hCl
 have hcl : clsIn K C=some { name:=nm,bases:=bs,mro:=.ref C :: bm,ns:=N,qualname:=q,hasDict:=true,slotNames:=sn,subclasses:=sub,abstract:=ab,collection:=col,hasDel:=false }:=by unfold clsIn; rw [hCl] <;> rfl
 have eC : e≠C:=fun z=>by
  rw [z,hC] at he
  cases he
 have n1 : ([(v.s0,.ref e),(v.x0,u)].reverse.lookup v.s0 : Option Value)=some (.ref e):=by
  show ([(v.x0,u),(v.s0,.ref e)].lookup v.s0 : Option Value) = _
  have : (v.s0 == v.x0)=false:=by simpa using S.ne
  simp [List.lookup,this]
 have n2 : ([(v.s0,.ref e),(v.x0,u)].reverse.lookup v.x0 : Option Value)=some u:=by
  show ([(v.x0,u),(v.s0,.ref e)].lookup v.x0 : Option Value) = _
  simp [List.lookup]
 refine ks_wpAt_execs_cons ?_
 refine ks_wpAt_Expr_any ?_ (by show (v.sc.kind == .module && _)=false; rw [S.kind]; rfl)
 refine xi_meth S.line ?_
 refine ks_wpAt_super_base S.sup S.cls (by decide) rfl (X _ _ lk) rfl rfl rfl (X _ _ hcode) rfl hvs hfile Y.top ?_
 refine ks_loadName_global S.kind S.sup (loadGlobal_builtin hg hms hb hbs ⟨rfl,?_⟩)
 refine wpAny_loadName_free S.kind S.cls rfl ⟨_,X _ _ hcell,rfl⟩ ?_
 refine wpAny_loadName_local S.kind S.slf hns n1 ?_
 refine ks_wpAny_isType_cls hC rfl ⟨rfl,?_⟩
 refine ks_wpAny_call_super hC rfl he rfl (fun _ z=>by cases z) (looks_mroIn X Y.own) fun h1 es kp1=>?_
 intro pl
 have X1 : K.In h1:=fun b o z=>kp1 _ _ (X b o z)
 have he1:=kp1 _ _ he
 have I1 : InstAt h1 e (excRec (.ref C) t0 none .none .none (.bool false)) C none:=⟨he1,rfl,rfl,trivial⟩
 refine kxs_getMethod kxs_ValueError es (looks_opaque X1 Y.opq) ((looks_clsIn X1 hcl).andThen .now) (l:=bm) (by simp [List.dropWhile_cons]) X1 hal (I1.type.andThen (looks_subIn X1 Y.ve)) eC (by decide) ?_
 have hu2 : (h1.push (kxs_mw "ValueError.__init__" e)).get? h1.objs.size=some (kxs_mw "ValueError.__init__" e):=Heap.get?_push_at rfl rfl
 have kp2 : ∀ b o,h1.get? b=some o→(h1.push (kxs_mw "ValueError.__init__" e)).get? b=some o:=fun b o z=>Heap.get?_push_of_some _ z
 refine kxs_callWith (i:="ValueError.__init__") (x:=e) rfl ?_
 show wpAny _ _ (evalArgs (Value.ref h1.objs.size) true [(false,eval (.Constant (.str v.tx) v.j v.pc) (v.env L f))] []) _ _ _
 refine evalArgs_plain (spliced_cons (wpAny_Constant_str (spliced_nil ⟨hu2,?_⟩)))
 refine xi_bound (kp2 _ _ (kp1 _ _ hC)) (kp2 _ _ he1) hu2 (by rw [sizeLine_eq]; show 1≤_; omega) fun h3 kp3 he3 sz3=>?_
 have kp : ∀ b o,b≠e→hp.get? b=some o→h3.get? b=some o:=fun b o n z=>kp3 b o n (kp2 _ _ (kp1 _ _ z))
 have sz : hp.objs.size < h3.objs.size:=Nat.lt_trans (Nat.lt_trans (Heap.lt_size es) (Heap.lt_size hu2)) sz3
 generalize (h1.push (kxs_mw "ValueError.__init__" e)).objs.size=t1 at he3
 have X3 : K.In h3:=XK _ kp
 have hns3 : h3.Ns L (fun x=>[(v.s0,.ref e),(v.x0,u)].reverse.lookup x):=by
  obtain ⟨o,es,ep,e1,e2,e3⟩:=hns
  refine ⟨o,es,ep,kp _ _ (fun z=>?_) e1,e2,e3⟩
  rw [z,he] at e1
  cases e1
  cases e2
 show _root_.PySem.wpAt _ _ _ _ _ _ _
 refine ks_wpAt_execs_cons (ks_wpAt_Assign_Attr (_root_.PySem.wpAt_of_wpAny (wpAny_Name (wpAny_loadName_local S.kind S.par hns3 n2 (wpAny_Name (wpAny_loadName_local S.kind S.slf hns3 n1 ?_) S.nd1)) S.nd2)))
 refine set_plain X3 (ox:=excRec (.ref C) t1 none .none .none (.bool false)) (od:=none) ⟨he3,rfl,rfl,trivial⟩ Y.sa ?_
 refine PySem.HandSPX.exc_osa X3 he3 hcl (show PySem.HandSPX.refsVE (.ref C :: bm)=true from hbm) rfl Y.fno fun h4 tk4 dx kp4 dn dne hx hn=>?_
 refine _root_.PySem.wpAt_of_wpAny (wpAny_execs_nil (hq h4 tk4 t1 dx (fun b o n z=>kp4 b o n (kp b o n z)) ?_ dne hx hn))
 exact Nat.le_trans (Nat.le_of_lt sz) dn
end
def spXi (C : Addr) (fl : Str) : Sp:=fun vs H Q _=>∃ a y,vs = [.ref a,y]∧H a=some (exo a C none)∧∀ dx,H dx=none→dx≠a→Q .non (upd (upd H dx (exd dx [(fl,y)])) a (exo a C (some dx)))
theorem fn_xi {CX : CXT} {P : Program} {w : World} {K : PySem.W.Frag} {mg : Str→Option Value} {base : Heap} {k : Nat} {f C : Addr} {v : XiV} (Y : XiK P K C f v) (hms : mg "super" = none) :
  FnOk P w K mg base CX k f v.fd [v.s0,v.x0] (spXi C v.fl):=by
 refine ⟨fun vs H Q E ⟨a,y,e,_⟩=>by rw [e]; rfl,fun A outer s H args us vs Q E hr e0 hb r hsp=>?_⟩
 obtain ⟨a,y,rfl,ea,q⟩:=hsp
 obtain ⟨u,rfl,ry⟩ : ∃ u,us = [.ref a,u]∧RelV y u:=by
  cases r with
  | cons r0 r1 =>
   cases r1 with
   | cons r2 r3 =>
    cases r3
    exact ⟨_,by rw [show _=Value.ref a from r0],r2⟩
 have S:=Y.sc
 have bk : ∀ b o,base.get? b=some o→s.heap.get? b=some o:=fun b o z=>(e0.bs b o z).1
 have bn : ∀ b o,base.get? b=some o→b≠a:=fun b o z y=>by
  have:=(e0.bs b o z).2
  rw [y,ea] at this; cases this
 have KX : K.In s.heap:=e0.mod.kin.keeps bk
 have lim : s.heap.NoLimit:=e0.mod.nolimit.keeps bk
 obtain ⟨oc,od,osl,lk⟩:=Y.lk
 obtain ⟨t0,he⟩:=exo_at e0.hok ea
 obtain ⟨mb,hb1,hb2⟩:=e0.mod.blt
 refine ks_codeAny_call_defAt hr.depth (KX _ _ lk) rfl lim (PySem.W.codeRec_of KX Y.cin) rfl hb S.nocell (fun x mx=>?_) (fun h0 hns k0=>?_) S.co S.gen S.kind
 ·have mx : x∈[(v.s0,Value.ref a),(v.x0,u)]:=mx
  simp only [List.mem_cons,List.not_mem_nil,or_false] at mx
  rcases mx with rfl | rfl
  ·exact S.slf
  ·exact S.par
 ·refine xi_body Y (fun b o z=>k0 b o (KX b o z)) (fun h' kp=>e0.mod.kin.keeps fun b o z=>kp b o (bn b o z) (k0 b o (bk b o z))) hns (e0.mod.glob.keeps fun b o z=>k0 b o (bk b o z)) (hb1.keeps fun b o z=>k0 b o (bk b o z)) hms ((hb2 "super" (by decide)).trans (by rfl)) (k0 _ _ he) fun h' t' t1 dx kp dn dne hx hn=>?_
  have nd : ∀ {b : Addr} {o : Obj},s.heap.get? b=some o→b≠dx:=fun {b o} z y=>by
   have l1 : b < h0.objs.size:=Heap.lt_size (k0 _ _ z)
   exact absurd (y ▸ l1) (Nat.not_lt.mpr dn)
  have hnd : H dx=none:=by
   cases z : H dx with
   | none=>rfl
   | some o =>
    have l1 : dx < s.heap.objs.size:=e0.hok.lt z
    obtain ⟨oL,_,_,eL,_⟩:=hns
    have l2 : s.heap.objs.size < h0.objs.size:=Heap.lt_size eL
    exact absurd (Nat.lt_trans l1 l2) (Nat.not_lt.mpr dn)
  have na : ∀ {b : Addr},H b=none→b≠a:=fun {b} n z=>by
   rw [z,ea] at n; cases n
  have kk : ∀ b o,b≠a→s.heap.get? b=some o→h'.get? b=some o:=fun b o n z=>kp b o n (k0 b o z)
  show CE outer P w H s Q .none _
  refine ⟨.non,_,rfl,e0.bare,?_,?_,rfl,q dx hnd dne⟩
  ·exact {
    keep:=fun b o z n _ _=>kk b o (na n) z
    slot:=fun b o z n _ _=>⟨o.slots,kk b o (na n) z⟩
    free:=fun b o z n _=>by rw [upd_ne (na n),upd_ne (nd z)]; exact n
    there:=fun b o z _=>by
     by_cases hb : b=a
     ·exact ⟨_,by rw [hb]; exact hx⟩
     ·exact ⟨o,kk b o hb z⟩
    tups:=fun b xs z=>by rw [upd_ne (at_ne ea z exo_tup),upd_ne (ne_of_none z hnd)]; exact z
    frzs:=fun b o w z=>by rw [upd_ne (at_ne ea z exo_frz),upd_ne (ne_of_none z hnd)]; exact z
    tbls:=fun b ps z=>⟨#[],by rw [upd_ne (at_ne ea z exo_tbl),upd_ne (ne_of_none z hnd),z]; simp⟩ }
  ·intro b o z
   by_cases hb : b=a
   ·subst hb
    rw [upd_same] at z
    cases z
    exact exo_ok hx
   ·rw [upd_ne hb] at z
    by_cases hd : b=dx
    ·subst hd
     rw [upd_same] at z
     cases z
     exact exd_ok hn (relO_put (fs:=[]) ry fun _=>True.intro)
    ·rw [upd_ne hd] at z
     refine (e0.hok b o z).stay (fun c w hc y=>kk c w ?_ y) (fun c hc=>?_) fun c xs hc=>?_
     ·rcases hc with rfl | hc
      ·exact hb
      ·exact at_ne ea hc exo_own
     ·rw [upd_ne (at_ne ea hc exo_own),upd_ne (ne_of_none hc hnd)]; exact hc
     ·rw [upd_ne (at_ne ea hc exo_tup),upd_ne (ne_of_none hc hnd)]; exact hc
end Xi
end
section
set_option maxHeartbeats 4000000
namespace Fx
open PySem PySem.Spec PyProof.Rows L2
end Fx
end
section
set_option maxHeartbeats 4000000
namespace Fx
open PySem PySem.Spec PyProof.Rows L2
section
variable {X : Cx} {T : Tb} {Wx : WX} {E : En} {TT : Tbl} {C : Callee} {W : Wd} {H : Hp} {σ : St} {fr : Fr} {h : MH}
abbrev Tb.ex (T : Tb) (m : Option Xm) : Tb:={ T with cm:={ T.cm with e:=m } }
end
end Fx
end
section
set_option maxHeartbeats 4000000
namespace Xi
open PySem PySem.Spec PyProof.Rows L2
theorem xiOf_eq {fd : FuncData} {v : XiV} (h : xiOf fd=some v) : fd=v.fd:=by
 unfold xiOf at h
 split at h
 ·split at h
  ·rename_i q
   simp only [Bool.and_eq_true,beq_iff_eq] at q
   obtain ⟨rfl,rfl,rfl,rfl,rfl,rfl,rfl⟩:=q
   cases h
   rfl
  ·cases h
 ·cases h
theorem xsB_ok {v : XiV} (h : xsB v=true) : XiS v:=by
 unfold xsB at h
 simp only [Bool.and_eq_true,decide_eq_true_eq,Bool.not_eq_true',List.all_eq_true,decide_eq_false_iff_not] at h
 obtain ⟨h1,h2,h3,h4,h5,h6,h7,h8,h9,h10,h11,h12⟩:=h
 exact ⟨h1,h2,h3,h4,fun z=>by rw [z] at h5; simp at h5,h6,h7,h8,h9,h10,fun x hx=>h11 x hx,h12⟩
theorem xcB_ok {K : PySem.W.Frag} {C : Addr} (q : xcB K C=true) : ∃ nm q N bs bm sn sub ab col dd k0 k1 k2 k3 k5,K.lookup C=some (excClassObj nm q C N bs bm true sn sub ab col dd k0 k1 k2 k3 k5 "ValueError.__new__")∧PySem.HandSPX.refsVE bm=true∧PySem.W.alongIn K "__init__" bm=some (some (.builtin "ValueError.__init__")):=by
 unfold xcB at q
 split at q
 ·rename_i dd cd sl ho
  split at q
  ·rename_i C' bm k0 k1 k2 k3 n k5 hm hs
   simp only [Bool.and_eq_true,beq_iff_eq,Bool.not_eq_true'] at q
   obtain ⟨rfl,rfl,hdel,hd,hr,ha⟩:=q
   obtain ⟨nm,bs,mro,ns,qn,hd',sn,sub,ab,col,del⟩:=cd
   dsimp only at hm hdel hd
   subst hm hdel hd
   have hsl : sl = #[k0,k1,k2,k3,some (.builtin "ValueError.__new__"),k5]:=by
    obtain ⟨l⟩:=sl
    simp only at hs
    rw [hs]
   subst hsl
   exact ⟨nm,qn,ns,bs,bm,sn,sub,ab,col,dd,k0,k1,k2,k3,k5,ho,hr,ha⟩
  ·cases q
 ·cases q
theorem cdB_ok {file : Str} {K : PySem.W.Frag} {a : Addr} (h : cdB file K a=true) : ∃ c1 c2 vs c3 f tf,K.lookup a=some ⟨c1,c2,.fields vs,c3⟩∧vs[2]? = some (.str f tf)∧(file == f)=true:=by
 unfold cdB at h
 split at h
 ·rename_i ho
  split at h
  ·rename_i e
   exact ⟨_,_,_,_,_,_,ho,e,h⟩
  ·cases h
 ·cases h
theorem clB_ok {K : PySem.W.Frag} {a C : Addr} (h : clB K a C=true) : ∃ c1 c2 c3,K.lookup a=some ⟨c1,c2,.cell (some (.ref C)),c3⟩:=by
 unfold clB at h
 split at h
 ·rename_i ho
  rw [beq_iff_eq] at h
  subst h
  exact ⟨_,_,_,ho⟩
 ·cases h
theorem fnB_ok {file : Str} {K : PySem.W.Frag} {C : Addr} {fl : Str} {f : Addr} (h : fnB file K C fl f=true) : ∃ v oc od osl,K.lookup f=some ⟨oc,od,.func v.fd,osl⟩∧XiS v∧v.fl=fl∧cdB file K v.cda=true∧PySem.W.codeIn K (.ref v.cda) v.qn=true∧clB K v.cc C=true:=by
 unfold fnB at h
 split at h
 ·rename_i ho
  split at h
  ·rename_i v e
   simp only [Bool.and_eq_true,decide_eq_true_eq] at h
   obtain ⟨h1,h2,h3,h4,h5⟩:=h
   have:=xiOf_eq e
   subst this
   exact ⟨_,_,_,_,ho,xsB_ok h1,h2,h3,h4,h5⟩
  ·cases h
 ·cases h
structure PxOk (file : Str) (P : Program) : Prop where
 top : (P.main.scope.names.lookup ("super" : Str)).isSome=false
 file : P.main.file=file
structure XiF (file : Str) (K : PySem.W.Frag) (C : Addr) (fl : Str) : Prop where
 xi : ∃ v,v.fl=fl∧∀ P : Program,PxOk file P→XiK P K C (He.ma K C "__init__") v
 oex : OexC K C
 xf : XfC K C
 no : PySem.W.findIn K (.ref C) fl=some none
theorem zgH {file : Str} {K : PySem.W.Frag} {C : Addr} {fl : Str} (h : xiB file K C fl=true) : XiF file K C fl:=by
 unfold xiB at h
 simp only [Bool.and_eq_true,decide_eq_true_eq] at h
 obtain ⟨h1,h2,h3,h4,h5,h6,h7,h8,h9,h10,h11,h12⟩:=h
 obtain ⟨v,oc,od,osl,lk,S,hf,hc,hq,hl⟩:=fnB_ok h1
 have X:=xfB_ok h10
 refine ⟨⟨v,hf,fun P px=>⟨S,⟨_,_,_,lk⟩,?_,hq,clB_ok hl,px.top,xcB_ok h2,h3,h4,h5,h6,by rw [hf]; exact h7,h8,h9⟩⟩,⟨?_,h6,X.exC,h11,h12⟩,X,h7⟩
 ·obtain ⟨c1,c2,vs,c3,f,tf,e1,e2,e3⟩:=cdB_ok hc
  exact ⟨c1,c2,vs,c3,f,tf,e1,e2,by rw [px.file]; exact e3⟩
 ·obtain ⟨nm,q,N,bs,bm,sn,sub,ab,col,dd,k0,k1,k2,k3,k5,e1,e2,_⟩:=xcB_ok h2
  exact ⟨nm,q,N,bs,bm,sn,sub,ab,col,dd,k0,k1,k2,k3,k5,e1,e2⟩
theorem xi_bind {v : XiV} (hn : v.s0≠v.x0) (a b : Value) : bindArgs v.fd ⟨[a,b],[]⟩ = pure ([v.s0,v.x0].zip [a,b]):=by
 have e1 : (v.x0 == v.s0)=false:=by simpa using fun z=>hn z.symm
 have e2 : (v.s0 == v.x0)=false:=by simpa using hn
 unfold bindArgs
 simp [XiV.fd,PySem.W.fnX,List.lookup,e1,e2,seqItems?]
 rfl
end Xi
namespace Fx
open PySem PySem.Spec PyProof.Rows L2
section
variable {X : Cx} {T : Tb} {Wx : WX} {E : En} {TT : Tbl} {C : Callee}
theorem TOk.ex {K : PySem.W.Frag} {m : Option Xm} (h : TOk K T) : TOk K (T.ex m):=⟨h.cls,h.nof,h.inj⟩
end
end Fx
end
section
set_option maxHeartbeats 4000000
namespace L2
open PySem PySem.Spec PyProof.Rows
end L2
namespace Fx
open PySem PySem.Spec PyProof.Rows L2
end Fx
end
section
set_option maxHeartbeats 4000000
namespace L2
open PySem PySem.Spec PyProof.Rows
end L2
namespace Fx
open PySem PySem.Spec PyProof.Rows L2
end Fx
end
section
set_option maxHeartbeats 4000000
namespace Fx
open PySem PySem.Spec PySem.Calls PyProof.Rows
end Fx
namespace Fx
open PySem PySem.Spec PyProof.Rows L2
end Fx
end
section
set_option maxHeartbeats 4000000
namespace Fx
open PySem PySem.Spec PyProof.Rows L2
end Fx
end
section
set_option maxHeartbeats 4000000
namespace L2
open PySem PySem.Spec PyProof.Rows
def tMkV (C : Addr) (sp : Sp) (dvs : List V) (ta : TA) : TE:=fun σ H Q=>ta σ H fun vs H1=>vs.length≤1000∧∀ a,H1 a=none→sp (.ref a :: (vs ++ dvs)) (upd H1 a (exo a C none)) (fun v H2=>v = .non∧Q (.ref a) H2) (fun _ _ _=>False)
section
variable {X : Cx} {e : Expr} {es : List Expr} {ta : TA} {p pos : Pos}
theorem run_oex {CX : CXT} {C fI : Addr} {k : Nat} {fd : FuncData} {ps : List Str} {sp : Sp} {ds : List Value} {dvs : List V} (T : OexC X.K C) (iC : PySem.W.findIn X.K (.ref C) "__init__" = some (some (.ref fI))) (tI : PySem.W.typeIn X.K (.ref fI)=some (.type "function"))
  (F1 : FnOk X.prog X.w X.K X.mg X.base CX k fI fd ps sp) (hr : Room (k + 1) X.A) (hb : Binds X.K fd ps ds) (hd : Vals dvs ds) (hx : Passes CX X (fun _ _ _=>False)) {pins : List (Addr × Obj)} {σ : St} {H1 : Hp} {s1 : Shared} {Q : VK} {us : List Value} {vs : List V} (I1 : Inv X pins σ H1 s1) (r1 : Vals vs us) (hz : vs.length≤1000)
  (q1 : ∀ a,H1 a=none→sp (.ref a :: (vs ++ dvs)) (upd H1 a (exo a C none)) (fun v H2=>v = .non∧Q (.ref a) H2) (fun _ _ _=>False)) :
  wpAny (model X.prog X.w) X.A (call (.ref C) us) (EP X pins σ Q) X.xe s1:=by
 obtain ⟨nm,q,N,bs,bm,sn,sub,ab,col,dd,k0,k1,k2,k3,k5,hC,hbm⟩:=T.cls
 obtain ⟨hp,g,dr,tk,os⟩:=s1
 have hsz : hp.objs.size≤hp.objs.size + 1:=Nat.le_succ _
 have hn : H1 (hp.objs.size + 1)=none:=I1.hok.fresh hsz
 have hq:=q1 (hp.objs.size + 1) hn
 have kk : ∀ b o,hp.get? b=some o→((hp.push (PySem.W.kdv_tup us)).push (PySem.HandSPX.excO C hp.objs.size)).get? b=some o:=fun b o e=>Heap.get?_push_of_some _ (Heap.get?_push_of_some _ e)
 have hget : ((hp.push (PySem.W.kdv_tup us)).push (PySem.HandSPX.excO C hp.objs.size)).get? (hp.objs.size + 1)=some (PySem.HandSPX.excO C hp.objs.size):=by heap_get
 have I2 : Inv X pins σ (upd H1 (hp.objs.size + 1) (exo (hp.objs.size + 1) C none)) ⟨(hp.push (PySem.W.kdv_tup us)).push (PySem.HandSPX.excO C hp.objs.size),g,dr,tk,os⟩ :=
  I1.laid (t':=tk) (a:=hp.objs.size + 1) (o:=exo (hp.objs.size + 1) C none) (h':=(hp.push (PySem.W.kdv_tup us)).push (PySem.HandSPX.excO C hp.objs.size)) kk hsz (exo_ok hget)
 have r2 : Vals (V.ref (hp.objs.size + 1) :: (vs ++ dvs)) (Value.ref (hp.objs.size + 1) :: (us ++ ds)):=.cons rfl (r1.append hd)
 have hl : (Value.ref (hp.objs.size + 1) :: us ++ ds).length=ps.length:=by
  have e:=r2.length
  rw [F1.len _ _ _ _ hq] at e
  exact e.symm
 have hus : us.length≤sizeLine:=by
  rw [← Paired.length r1,sizeLine_eq]
  omega
 refine wpAny_call (PySem.HandSPX.call_own F.excBase_ValueError (fun Y=>PySem.HandSPX.refsVE_contains Y bm hbm) (I1.kIn _ _ hC) (PySem.W.looks_findIn I1.kIn iC) (fun self=>PySem.W.bind_fn I1.kIn self tI) hus
  (codeAny_mono (F1.run _ X.stack _ _ ⟨Value.ref (hp.objs.size + 1) :: us,[]⟩ (Value.ref (hp.objs.size + 1) :: (us ++ ds)) _ _ (fun _ _ _=>False) (hr.make C us []) (I2.env0.make C us []) (hb _ (Value.ref (hp.objs.size + 1) :: us) I2.kIn hl) r2 hq) fun r s' hq'=>?_))
 cases r with
 | error er=>exact hx pins σ _ _ er s' I2 hq'
 | ok fl =>
  cases fl with
  | ret u =>
   obtain ⟨v,H',I3,rv,ev,q3⟩:=I2.after hq'
   subst ev
   exact ⟨rv,⟨V.ref (hp.objs.size + 1),H',I3,rfl,q3⟩⟩
  | next=>exact False.elim hq'
  | brk=>exact False.elim hq'
  | cont=>exact False.elim hq'
theorem pe_oex {CX : CXT} {x : Str} {C fI : Addr} {k : Nat} {fd : FuncData} {ps : List Str} {sp : Sp} {ds : List Value} {dvs : List V} (T : OexC X.K C) (iC : PySem.W.findIn X.K (.ref C) "__init__" = some (some (.ref fI))) (tI : PySem.W.typeIn X.K (.ref fI)=some (.type "function"))
  (F1 : FnOk X.prog X.w X.K X.mg X.base CX k fI fd ps sp) (hr : Room (k + 1) X.A) (hb : Binds X.K fd ps ds) (hd : Vals dvs ds) (hx : Passes CX X (fun _ _ _=>False)) (hg : Gl X x) (hm : X.mg x=some (.ref C)) (ha : PA X (e :: es) ta)
  (hdb : (x == ("__debug__" : Str))=false:=by decide) (he : starEach (e :: es) X.env=(false,eval e X.env) :: starEach es X.env:=by rfl) (hpl : (backTo pos (starEach es X.env)).any (·.1)=false:=by rfl) :
  PE X (.Call (.Name x p) (e :: es) [] pos) (tMkV C sp dvs ta):=by
 refine ⟨fun pins s σ H Q I h=>?_⟩
 refine wpAny_Call_Name_kw (ld_glob I hg hm ?_ hdb)
 refine PySem.W.callWith_K (h₀:=X.base) I.ok.mod.kin T.kC (thn (ha.run pos pins s σ H _ I h) fun us s1 ⟨vs,H1,I1,r1,hz,q1⟩=>⟨I1.kIn,?_⟩) he hpl
 exact run_oex T iC tI F1 hr hb hd hx I1 r1 hz q1
end
end L2
end
section
set_option maxHeartbeats 4000000
namespace PySem
namespace HandSPX
open PySem.W PySem.Calls PyProof.Rows
open Builtin Builtin.ObjectAttr
section
variable {M : Model} {A : Around} {E : Value→Shared→Prop} {h : Heap} {g : Array GenState} {d : Drawn} {t : Nat} {os : OsState}
variable {nm q : Str} {C N : Addr} {bs bm bmB : List Value} {hdct : Bool} {sn : List Str} {sub : List Value} {ab : Bool} {col : Option Bool} {dd : Option Addr} {k0 k1 k2 k3 k5 : Option Value} {B newId initId : String}
theorem zmc (F : ExcBaseFacts B newId initId bmB) (hT : ∀ X : String,bm.contains (.type X)=bmB.contains (.type X)) {n : Str} {v : Value} {Q : Unit→Shared→Prop}
  (hC : h.get? C=some (excClassObj nm q C N bs bm hdct sn sub ab col dd k0 k1 k2 k3 k5 newId)) (hq : Q () ⟨h,g,d,t,os⟩) : wpAny M A (checkBuiltinCall newId ⟨[.ref C],[(n,v)]⟩) Q E ⟨h,g,d,t,os⟩:=by
 have hcont : (Value.ref C :: bm).contains (.type B)=true:=by rw [List.contains_cons,hT,F.hasB,Bool.or_true]
 have hstar:=F.noStar
 simp only [checkBuiltinCall,F.newKind,F.newSplit,F.newRow]
 repeat (first | refine wpAny_loadPart_at hC ?_ | (refine wpAny_isSubtype_exc hC ?_; rw [hcont]) | refine wpAny_staticBase_exc hC ?_ | refine wpAny_madeBy_exc hC ?_ | simp only [bne_self_eq_false,Bool.false_eq_true,if_false] | wp_step)
 exact hq
end
section
variable {prog : Program} {w : World} {A : Around} {E : Value→Shared→Prop} {R : Result→Shared→Prop} {h : Heap} {g : Array GenState} {d : Drawn} {t : Nat} {os : OsState}
variable {nm q : Str} {C N : Addr} {bs bm bmB : List Value} {hdct : Bool} {sn : List Str} {sub : List Value} {ab : Bool} {col : Option Bool} {dd : Option Addr} {k0 k1 k2 k3 k5 : Option Value} {B newId initId : String}
theorem new_ownK (F : ExcBaseFacts B newId initId bmB) (hT : ∀ X : String,bm.contains (.type X)=bmB.contains (.type X)) {n : Str} {v : Value}
  (hC : h.get? C=some (excClassObj nm q C N bs bm hdct sn sub ab col dd k0 k1 k2 k3 k5 newId))
  (hq : R (.ok (.ret (.ref (h.objs.size + 1)))) ⟨(h.push { cls:=.type "tuple",data:=.seq [].toArray }).push
   { cls:=.ref C,data:=.fields #[.ref h.objs.size,.none,.none,.none,.bool false,.none] },g,d,t,os⟩) :
  codeAny (model prog w) A (.builtin newId ⟨[.ref C],[(n,v)]⟩) R ⟨h,g,d,t,os⟩:=by
 have hends:=F.ends
 have hcB : (Value.ref C :: bm).contains (.type B)=true:=by rw [List.contains_cons,hT,F.hasB,Bool.or_true]
 have hcA : (Value.ref C :: bm).contains (.type "AttributeError")=false:=by rw [List.contains_cons,hT,F.noAttr]; rfl
 have hcN : (Value.ref C :: bm).contains (.type "NameError")=false:=by rw [List.contains_cons,hT,F.noName]; rfl
 refine codeAny_builtinAt F.entry ?_
 unfold Builtin.«BaseException.__new__»
 refine wpAt_bind ?_
 show wpAt _ _ _ (stack >>= _) _ _ _
 refine wpAt_bind (wpAt_stack fun p below=>wpAt_of_wpAny ?_)
 wp_walk
 refine wpAt_of_wpAny ?_
 rw [F.owner]
 repeat (first | with_reducible refine wpAny_madeHere_exc F.canon hC ?_ | with_reducible refine wpAny_loadPart_at hC ?_ | (with_reducible refine wpAny_isSubtype_exc hC ?_; first | rw [hcB] | rw [hcA] | rw [hcN]) | wp_step)
 show R _ _
 rw [Heap.size_push]
 exact hq
theorem zlD (F : ExcBaseFacts B newId initId bmB) (hT : ∀ X : String,bm.contains (.type X)=bmB.contains (.type X)) {n : Str} {v : Value} {fI : Addr} {Q : Fin→Shared→Prop}
  (hC : h.get? C=some (excClassObj nm q C N bs bm hdct sn sub ab col dd k0 k1 k2 k3 k5 newId))
  (hi : W.Looks (model prog w) h (typeLookup (.ref C) "__init__") (some (.ref fI))) (hb : ∀ self,W.Looks (model prog w) h (bindSpecial (.ref fI) self) (.ref fI,[self]))
  (hq : codeAny (model prog w) A (.call (.ref fI) ⟨[.ref (h.objs.size + 1)],[(n,v)]⟩)
   (fun r s'=>match r with | .ok (.ret v)=>v = .none∧Q (.done (.ret (.ref (h.objs.size + 1)))) s' | .ok _=>False | .error e=>E e s')
   ⟨(h.push (W.kdv_tup [])).push (excO C h.objs.size),g,d,t,os⟩) :
  wpAny (model prog w) A (Builtin.«type.__call__» ⟨[.ref C],[(n,v)]⟩) Q E ⟨h,g,d,t,os⟩:=by
 repeat (first | with_reducible refine wpAny_loadPart_at hC ?_ | with_reducible refine wpAny_madeBy_exc hC ?_ | wp_step)
 refine codeAny_call_builtin_code (Code.quiet_builtin _ F.quiet) (zmc F hT hC ?_)
 refine new_ownK F hT hC ?_
 show wpAny _ _ _ _ _ _
 have k : ∀ b o,h.get? b=some o→((h.push (W.kdv_tup [])).push (excO C h.objs.size)).get? b=some o:=fun b o e=>Heap.get?_push_of_some _ (Heap.get?_push_of_some _ e)
 have hC₁:=k _ _ hC
 have hget : ((h.push (W.kdv_tup [])).push (excO C h.objs.size)).get? (h.objs.size + 1)=some (excO C h.objs.size):=by heap_get
 have hcC : (Value.ref C :: bm).contains (.ref C)=true:=by simp
 have i1:=hi.keeps k
 have b1:=(hb (.ref (h.objs.size + 1))).keeps k
 unfold isInstance
 repeat (first | with_reducible refine wpAny_loadPart_at hget ?_ | (with_reducible refine wpAny_isSubtype_exc hC₁ ?_; rw [hcC]) | wp_step)
 show wpAny _ _ (typeLookup (.ref C) _) _ _ _
 refine i1.at ?_
 refine wpAny_holding (wpAny_bind (b1.at ?_))
 refine wpAny_bind (wpAny_call (codeAny_mono hq fun r s' z=>?_))
 rcases r with e | (v | _ | _ | _) <;> first | exact z | exact z.elim | skip
 obtain ⟨rfl,z⟩:=z
 first
  | exact wpAny_pure (wpAny_pure z)
  | (wp_walk; exact z)
theorem call_ownK (F : ExcBaseFacts B newId initId bmB) (hT : ∀ X : String,bm.contains (.type X)=bmB.contains (.type X)) {n : Str} {v : Value} {fI : Addr}
  (hC : h.get? C=some (excClassObj nm q C N bs bm hdct sn sub ab col dd k0 k1 k2 k3 k5 newId))
  (hi : W.Looks (model prog w) h (typeLookup (.ref C) "__init__") (some (.ref fI))) (hb : ∀ self,W.Looks (model prog w) h (bindSpecial (.ref fI) self) (.ref fI,[self]))
  (hq : codeAny (model prog w) (A.under (.builtin "type.__call__" ⟨[.ref C],[(n,v)]⟩)) (.call (.ref fI) ⟨[.ref (h.objs.size + 1)],[(n,v)]⟩) (W.InitBack (h.objs.size + 1) R)
   ⟨(h.push (W.kdv_tup [])).push (excO C h.objs.size),g,d,t,os⟩) :
  codeAny (model prog w) A (.call (.ref C) ⟨[],[(n,v)]⟩) R ⟨h,g,d,t,os⟩:=by
 have f1:=tc_lookup
 have f2:=tc_bind (.ref C)
 have hTy : (⟨h,g,d,t,os⟩ : Shared).TypeIs (.ref C) "type":=⟨_,hC,rfl⟩
 refine codeAny_of_tree ?_
 show wpAny _ _ (callAny (.ref C) _) _ _ _
 repeat (any_goals (first | assumption | with_reducible refine wpAny_loadPart_at hC ?_ | wp_step))
 refine ⟨rfl,?_⟩
 refine codeAny_call_builtin_at (Code.quiet_builtin _ (by decide +kernel)) entry_typeCall (wpAny_check_type_call_sub hC (zlD F hT hC hi hb ?_))
 refine codeAny_mono hq fun r s' z=>?_
 rcases r with e | (v | _ | _ | _) <;> exact z
end
end HandSPX
end PySem
end
section
set_option maxHeartbeats 4000000
namespace Xi
open PySem PySem.Spec PyProof.Rows L2
theorem pe_xi {file : Str} {X : Cx} {x : Str} {C : Addr} {fl : Str} {e : Expr} {es : List Expr} {p pos : Pos} {ta : TA} {k : Nat} (h : XiF file X.K C fl) (px : PxOk file X.prog) (hr : Room (k + 1) X.A) (hsu : X.mg "super" = none) (hg : Gl X x) (hm : X.mg x=some (.ref C)) (ha : PA X (e :: es) ta)
  (hdb : (x == ("__debug__" : Str))=false:=by decide) (he : starEach (e :: es) X.env=(false,eval e X.env) :: starEach es X.env:=by rfl) (hpl : (backTo pos (starEach es X.env)).any (·.1)=false:=by rfl) :
  PE X (.Call (.Name x p) (e :: es) [] pos) (tMkV C (spXi C fl) [] ta):=by
 obtain ⟨⟨v,rfl,hv⟩,hO,hX,hno⟩:=h
 have Y:=hv X.prog px
 refine pe_oex (CX:=fun _ _ _ _ _ _=>False) (k:=k) (ds:=[]) hO Y.ini Y.tyF (fn_xi (w:=X.w) (base:=X.base) Y hsu) hr (Binds.all fun us hl=>?_) .nil (fun _ _ _ _ _ _ _ z=>False.elim z) hg hm ha hdb he hpl
 match us,hl with
 | [a,b],_=>exact xi_bind (Y.sc.ne) a b
theorem xi_bindK {v : XiV} (hn : v.s0≠v.x0) (a b : Value) : bindArgs v.fd ⟨[a],[(v.x0,b)]⟩ = pure ([v.s0,v.x0].zip [a,b]):=by
 have e1 : (v.x0 == v.s0)=false:=by simpa using fun z=>hn z.symm
 have e2 : (v.s0 == v.x0)=false:=by simpa using hn
 unfold bindArgs
 simp [XiV.fd,PySem.W.fnX,List.lookup,e1,e2,seqItems?]
 rfl
end Xi
namespace Fx
open PySem PySem.Spec PyProof.Rows L2
section
variable {X : Cx} {T : Tb} {Wx : WX} {E : En} {TT : Tbl} {C : Callee} {pos : Pos}
theorem exd_frz {e : Addr} {fs : List (Str × V)} {o : Obj} {u : HO} : exd e fs≠.frz o u:=fun z=>by
 unfold exd at z
 cases z
theorem ev_mkx {c f : Nat} {x : Exp} : ev TT C (.mkx c f x)=bnd (evs TT C (.cons x .nil)) (fun vs=>match vs with | [v]=>rt (.exc c f [v]) | _=>fun _ _=>.stuck):=by
 funext σ h
 simp only [ev,evs,bnd]
 cases ev TT C x σ h <;> rfl
theorem se_mkx1 {cn f : Nat} {e : Expr} {x : Exp} {CA : Addr} (hcl : T.exV cn=some CA) (he : PE X e (tMkV CA (Xi.spXi CA (T.fldN f)) [] (tEs X T Wx (evs TT C (.cons x .nil))))) : SE X T Wx TT C true e (.mkx cn f x):=by
 refine PE.wk he fun σ H Q q=>?_
 rw [ev_mkx] at q
 obtain ⟨W,fr,h,r0,a⟩:=q
 refine ⟨W,fr,h,r0,bndE a fun ys H1 W1 vs fr1 h1 ev1 r1 rr a=>?_⟩
 match vs,rr,a with
 | [],_,a=>exact a.elim
 | _ :: _ :: _,_,a=>exact a.elim
 | [v],rr,a =>
  obtain ⟨y,rfl,ry⟩ : ∃ y,ys = [y]∧Rp (gl X T) W1 v y:=by
   cases rr with
   | cons r0 r1=>cases r1; exact ⟨_,rfl,r0⟩
  refine ⟨by simp,fun p hp=>⟨p,y,rfl,upd_same,fun dx hdx dne=>⟨rfl,?_⟩⟩⟩
  have hd1 : H1 dx=none:=by rw [upd_ne dne] at hdx; exact hdx
  have eH : upd (upd (upd H1 p (exo p CA none)) dx (exd dx [(T.fldN f,y)])) p (exo p CA (some dx))=upd (upd H1 dx (exd dx [(T.fldN f,y)])) p (exo p CA (some dx)):=by
   funext b
   by_cases hp' : b=p
   ·rw [hp',upd_same,upd_same]
   ·rw [upd_ne hp',upd_ne hp']
    by_cases hb : b=dx
    ·rw [hb,upd_same,upd_same]
    ·rw [upd_ne hb,upd_ne hb,upd_ne hp']
  rw [eH]
  have xt : Ext H1 (upd H1 dx (exd dx [(T.fldN f,y)])):=Ext.upd hd1
  obtain ⟨nz,no⟩:=(WH.of r1).new hd1
  have r2 : RX X T W1 (upd H1 dx (exd dx [(T.fldN f,y)])) fr1 σ h1:=r1.ext xt
  have r3:=zrk (p:=dx) nz no (fun u od w z=>by rw [upd_same] at z; cases z; exact exd_frz) r2
  have ev2 : Evo W1 H1 (W1.fix (upd H1 dx (exd dx [(T.fldN f,y)])) dx) (upd H1 dx (exd dx [(T.fldN f,y)])):=zgu nz hd1 (Evo.ext xt)
  have hp2 : (upd H1 dx (exd dx [(T.fldN f,y)])) p=none:=by rw [upd_ne (Ne.symm dne)]; exact hp
  have xt2 : Ext (upd H1 dx (exd dx [(T.fldN f,y)])) (upd (upd H1 dx (exd dx [(T.fldN f,y)])) p (exo p CA (some dx))):=Ext.upd hp2
  have r3 : RX X T (W1.fix (upd H1 dx (exd dx [(T.fldN f,y)])) dx) (upd H1 dx (exd dx [(T.fldN f,y)])) fr1 σ h1:=r3
  obtain ⟨nz2,no2⟩:=(WH.of r3).new hp2
  have r4 : RX X T (W1.fix (upd H1 dx (exd dx [(T.fldN f,y)])) dx) (upd (upd H1 dx (exd dx [(T.fldN f,y)])) p (exo p CA (some dx))) fr1 σ h1:=r3.ext xt2
  have r5:=zrk (p:=p) nz2 no2 (fun u od w z=>by rw [upd_same] at z; cases z; exact exo_frz) r4
  have ev3:=zgu nz2 hp (ev2.trans (Evo.ext xt2))
  have zd : (W1.fix (upd H1 dx (exd dx [(T.fldN f,y)])) dx).Z dx=some (exd dx [(T.fldN f,y)]):=zo0 upd_same
  refine a _ (.ref p) _ ev3 r5 ?_
  exact Rp.exc1 (G:=gl X T) hcl (zo0 upd_same) ((zdE nz2).le.Z _ _ zd) ((ry.le (zdE nz).le).le (zdE nz2).le)
theorem zet {file : Str} {cn f k : Nat} {x : Str} {e : Expr} {xs : Exp} {CA : Addr} {p : Pos} (hcl : T.exV cn=some CA) (h : Xi.XiF file X.K CA (T.fldN f)) (px : Xi.PxOk file X.prog) (hr : Room (k + 1) X.A) (hsu : X.mg ("super" : Str)=none) (hg : Gl X x) (hm : X.mg x=some (.ref CA))
  (ha : SEs X T Wx TT C [e] (.cons xs .nil)) (hdb : (x == ("__debug__" : Str))=false:=by decide) (he : starEach [e] X.env=(false,eval e X.env) :: starEach [] X.env:=by rfl) (hpl : (PySem.backTo pos (starEach [] X.env)).any (·.1)=false:=by rfl) :
  SE X T Wx TT C true (.Call (.Name x p) [e] [] pos) (.mkx cn f xs) :=
 se_mkx1 hcl (Xi.pe_xi h px hr hsu hg hm ha hdb he hpl)
end
end Fx
end
section
set_option maxHeartbeats 4000000
namespace PySem.W
open PySem PySem.Spec PySem.Calls PyProof.Rows
section
variable {prog : Program} {w : World} {A : Around} {E : Value→Shared→Prop} {s : Shared} {K : Frag} {x D : Addr} {ox : Obj}
theorem zo1 {C : Addr} {od : Option Obj} {name : Str} {a g : Value} (hc : (clsIn K C).isSome=true) (ha : findIn K (.ref C) name=some (some a)) (hg : specialIn K a "__get__" = some (some g)) (ht : takesIn K a=some true) : findObj K C od name=some (.bind g a):=by
 obtain ⟨cd,hc⟩:=Option.isSome_iff_exists.mp hc
 unfold findObj
 rw [hc,Option.bind_some,ha,Option.bind_some]
 simp [hg,ht]
theorem kin_classO {od : Option Obj} {Q : Option Value→Shared→Prop} (hga : findIn K (.ref D) "__getattribute__" = some (some (.builtin "BaseException.__getattribute__"))) (hgt : findIn K (.ref D) "__getattr__" = some none) (hsub : subIn K (.ref D) (.type "BaseException")=some true)
  (hdct : hasDictIn K D=true) (ha : findIn K (.ref D) "__class__" = some (some (.builtin "object.__class__")))
  (hn : specialIn K (.builtin "object.__class__") "__get__" = some (some (.builtin "getset_descriptor.__get__"))) (htk : takesIn K (.builtin "object.__class__")=some true) (hm : mroIn K D (.type "object")=some true)
  (X : K.In s.heap) (I : InstAt s.heap x ox D od) (h : Q (some (.ref D)) { s with toks:=s.toks + 1 }) : wpAny (model prog w) A (getAttr? (.ref x) "__class__") Q E s:=by
 have hf : findObj K D od "__class__" = some (.bind (.builtin "getset_descriptor.__get__") (.builtin "object.__class__")):=zo1 (by obtain ⟨cd,hc,_⟩:=any_some hdct; rw [hc]; rfl) ha hn htk
 obtain ⟨hp,g,d,t,os⟩:=s
 have L0:=I.type (M:=model prog w)
 have L1:=looks_findIn (M:=model prog w) X hga
 have L2:=looks_findIn (M:=model prog w) X hgt
 have L3:=looks_find (M:=model prog w) X I hf
 have sub : Looks (model prog w) hp (isInstance (.ref x) (.type "BaseException")) true:=L0.andThen (looks_subIn X hsub)
 have hx0 : (false && onTheHeap (Value.builtin "BaseException.__getattribute__"))=false:=rfl
 have hx2 : (Value.builtin "BaseException.__getattribute__" == Value.builtin "object.__getattribute__")=false:=by decide +kernel
 have hx1 : (onTheHeap (Value.ref D) && Value.builtin "BaseException.__getattribute__" == Value.builtin "object.__getattribute__")=false:=by rw [hx2]; rfl
 unfold getAttr? getAttrBy? getAttrBy
 refine wpAny_bind (wpAny_mkText (wpAny_bind (wpAny_attempt (wpAny_holding (wpAny_bind (L0.at (wpAny_bind (L1.at ?_))))))))
 show wpAny _ _ (if (onTheHeap (Value.ref D) && Value.builtin "BaseException.__getattribute__" == Value.builtin "object.__getattribute__")=true then _ else _) _ _ _
 rw [hx1,if_neg Bool.false_ne_true]
 unfold getAttrByItsOwn hookBefore
 refine wpAny_bind ?_
 rw [if_pos (show onTheHeap (Value.ref D)=true from rfl)]
 refine L2.at ?_
 refine wpAny_bind (wpAny_attempt (wpAny_holding ?_))
 unfold callGetattribute
 rw [hx0,if_neg Bool.false_ne_true]
 unfold boundAndCalled
 rw [PySem.F.excAttr_ValueError.ga.bind (.ref x)]
 refine wpAny_bind (wpAny_pure ?_)
 show wpAny _ _ (call (.builtin "BaseException.__getattribute__") [.ref x,.str "__class__" t]) _ _ _
 refine wpAny_call (codeAny_call_builtin PySem.F.excAttr_ValueError.ga.plain PySem.F.entry_bexc_ga ?_)
 refine @check_slot (model prog w) _ _ ⟨hp,g,d,t + 1,os⟩ "BaseException.__getattribute__" "BaseException" "__getattribute__" (.ref x) [.str "__class__" t] [] _ (by decide +kernel) (by decide +kernel) sub (PySem.F.args_bexc_ga (.ref x) (.str "__class__" t)) ?_
 unfold Builtin.«object.__getattribute__»
 refine wpAny_bind (wpAny_of_eq (a:=((Value.ref x : Value),[Value.str "__class__" t])) (by first | rfl | (simp only [slotArgs]; rfl)) ?_)
 refine wpAny_bind (wpAny_pure (wpAny_bind (L0.at (wpAny_bind (L3.at ?_)))))
 show wpAny _ _ (holding [Value.builtin "object.__class__"] (call (.builtin "getset_descriptor.__get__") [.builtin "object.__class__",.ref x,.ref D]) >>= ret) _ _ _
 refine wpAny_bind (wpAny_holding (wpAny_call (class_get (s:=⟨hp,g,d,t + 1,os⟩) (ox:=ox) (od:=od) X I hm ?_)))
 refine wpAny_pure ?_
 show wpAny _ _ (handedOut (.ref D)) _ _ _
 rw [handedOut_of (v:=.ref D) rfl]
 first
  | exact wpAny_pure (wpAny_pure h)
  | exact wpAny_pure h
  | exact wpAny_pure (wpAny_bind (wpAny_pure (wpAny_pure h)))
theorem zl1 {od : Option Obj} (hga : findIn K (.ref D) "__getattribute__" = some (some (.builtin "BaseException.__getattribute__"))) (hgt : findIn K (.ref D) "__getattr__" = some none) (hsub : subIn K (.ref D) (.type "BaseException")=some true) (hdct : hasDictIn K D=true) (ha : findIn K (.ref D) "__class__" = some (some (.builtin "object.__class__")))
  (hn : specialIn K (.builtin "object.__class__") "__get__" = some (some (.builtin "getset_descriptor.__get__"))) (htk : takesIn K (.builtin "object.__class__")=some true) (hm : mroIn K D (.type "object")=some true) :
  KitX K (.ref x) (.ref D) (fun h=>InstAt h x ox D od) where
 ty:=fun _ _ _ I=>I.type
 it:=fun _ _ X _=>by
  obtain ⟨cdD,hcD,_⟩:=any_some hdct
  unfold clsIn at hcD
  split at hcD
  ·rename_i c' d' cd' sl' ho
   intro A' Q' E' s' k q
   unfold isType loadHead
   exact wpAny_bind (wpAny_loadPart (k _ _ (X _ _ ho)) (wpAny_pure q))
  ·cases hcD
 ne:=fun h tp dd its n sl X htp=>by
  obtain ⟨cdD,hcD,_⟩:=any_some hdct
  refine Bool.eq_false_iff.mpr fun q=>?_
  have e : D=tp:=Value.ref.inj (beq_iff_eq.mp q)
  subst e
  unfold clsIn at hcD
  split at hcD
  ·rename_i c' d' cd' sl' ho
   have z:=(X _ _ ho).symm.trans htp
   cases z
  ·cases hcD
 ca:=fun X I k=>kin_classO hga hgt hsub hdct ha hn htk hm X I k
end
end PySem.W
namespace L2
open PySem PySem.Spec PyProof.Rows
section
variable {X : Cx} {pins : List (Addr × Obj)} {σ : St} {H : Hp} {s : Shared} {a C : Addr} {d : Option Addr}
theorem exo_inst (I : Inv X pins σ H s) (r : Rd H a (exo a C none)) : ∃ oe,PySem.W.InstAt s.heap a oe C none:=by
 obtain ⟨⟨t1,h1⟩,_⟩:=(show ObjOk X.prog X.w H s.heap a (exo a C none) from rd_of I.hok r)
 exact ⟨_,h1,rfl,rfl,trivial⟩
theorem zpP {dx : Addr} {fs : List (Str × V)} (I : Inv X pins σ H s) (r : Rd H a (exo a C (some dx))) (q : Rd H dx (exd dx fs)) : ∃ oe od,PySem.W.InstAt s.heap a oe C (some od)∧∀ n v,fs.lookup n=some v→∃ u,PySem.W.lookIn n od=some (some u)∧RelV v u:=by
 obtain ⟨⟨t1,h1⟩,_⟩:=(show ObjOk X.prog X.w H s.heap a (exo a C (some dx)) from rd_of I.hok r)
 obtain ⟨⟨mA,hns,hr⟩,_⟩:=(show ObjOk X.prog X.w H s.heap dx (exd dx fs) from rd_of I.hok q)
 obtain ⟨od,ho,hl⟩:=lookIn_ns hns
 refine ⟨_,od,⟨h1,rfl,rfl,ho⟩,fun n v e=>?_⟩
 obtain ⟨u,hu,ru⟩:=RelO.some_of (v:=v) (o:=mA n) (by rw [← e]; exact hr n)
 exact ⟨u,by rw [hl,hu],ru⟩
def rIsV (K : PySem.W.Frag) : List V→Hp→VK→Prop:=fun xs H Q=>∃ (a C : Addr) (c : V) (cv : Value) (b : Bool),xs = [.ref a,c]∧(∀ u,RelV c u→u=cv)∧ExcC K C∧(Rd H a (exo a C none)∨∃ dx fs,Rd H a (exo a C (some dx))∧Rd H dx (exd dx fs))∧PySem.W.kitOne K (.ref C) cv=some b∧Q (.bl b) H
theorem call_isV {X : Cx} : CallR X (.builtin "isinstance") (rIsV X.K):=by
 intro pins s σ H xs us Q I r h
 obtain ⟨a,C,c,cv,b,rfl,hcv,K,ob,e,q⟩:=h
 cases r with
 | cons rx rr =>
  cases rr with
  | cons rt rr =>
   cases rr
   cases rx
   have ec:=hcv _ rt
   subst ec
   have fin : ∀ {oe : Obj} {od : Option Obj},PySem.W.InstAt s.heap a oe C od→wpAny (model X.prog X.w) X.A (call (.builtin "isinstance") [.ref a,_]) (EP X pins σ Q) X.xe s:=fun {oe od} J =>
    PySem.W.kia_one (PySem.W.zl1 K.hg K.hk K.hs K.hd K.ha K.hn K.ht K.hm) I.kIn J e (fun z=>nomatch z) fun tk=>⟨.bl b,H,I.kept (t':=tk) fun _ _ z=>z,rfl,q⟩
   rcases ob with ob | ⟨dx,fs,o1,o2⟩
   ·obtain ⟨oe,J⟩:=exo_inst I ob
    exact fin J
   ·obtain ⟨oe,od,J,_⟩:=zpP I o1 o2
    exact fin J
def tXfV (K : PySem.W.Frag) (n : Str) (te : TE) : TE:=fun σ H Q=>te σ H fun x H1=>∃ (a C dx : Addr) (fs : List (Str × V)) (v : V),x = .ref a∧XfC K C∧PySem.W.findIn K (.ref C) n=some none∧Rd H1 a (exo a C (some dx))∧Rd H1 dx (exd dx fs)∧fs.lookup n=some v∧Q v H1
theorem pe_xfV {X : Cx} {e : Expr} {te : TE} {pos : Pos} {n : Str} (he : PE X e te) (hb : attributeBase e n X.env (eval e X.env)=eval e X.env:=by rfl) : PE X (.Attribute e n pos) (tXfV X.K n te):=by
 refine ⟨fun pins s σ H Q I h=>?_⟩
 refine attr_of hb (thn (he.run pins s σ H _ I h) fun u s1 hh=>?_)
 obtain ⟨x,H1,I1,rx,a,C,dx,fs,v,ex,T,hno,o1,o2,l,q⟩:=hh
 subst ex
 obtain rfl : u=Value.ref a:=rx
 obtain ⟨oe,od,J,k⟩:=zpP I1 o1 o2
 obtain ⟨u,hu,ru⟩:=k n v l
 exact HandSPX.exc_get I1.kIn J T.ga T.gg T.exC (PySem.W.findObj_own T.hdC hno rfl hu) (handed_of ru) ⟨v,H1,I1.tok _,ru,q⟩
end
end L2
end
section
set_option maxHeartbeats 4000000
namespace L2
open PySem PySem.Spec PyProof.Rows
section
variable {X : Cx} {e : Expr} {tk : TA} {p pos kpos : Pos}
theorem run_oexK {CX : CXT} {C fI : Addr} {k : Nat} {fd : FuncData} {ps : List Str} {sp : Sp} {n : Str} (T : OexC X.K C) (iC : PySem.W.findIn X.K (.ref C) "__init__" = some (some (.ref fI))) (tI : PySem.W.typeIn X.K (.ref fI)=some (.type "function"))
  (F1 : FnOk X.prog X.w X.K X.mg X.base CX k fI fd ps sp) (hr : Room (k + 1) X.A) (hb : ∀ (s : Shared) (u0 u1 : Value),BindsTo s fd ⟨[u0],[(n,u1)]⟩ (ps.zip [u0,u1])) (hx : Passes CX X (fun _ _ _=>False)) {pins : List (Addr × Obj)} {σ : St} {H1 : Hp} {s1 : Shared} {Q : VK} {u : Value} {y : V} (I1 : Inv X pins σ H1 s1) (r1 : RelV y u)
  (q1 : ∀ a,H1 a=none→sp [.ref a,y] (upd H1 a (exo a C none)) (fun v H2=>v = .non∧Q (.ref a) H2) (fun _ _ _=>False)) :
  wpAny (model X.prog X.w) X.A (call (.ref C) [] [(n,u)]) (EP X pins σ Q) X.xe s1:=by
 obtain ⟨nm,q,N,bs,bm,sn,sub,ab,col,dd,k0,k1,k2,k3,k5,hC,hbm⟩:=T.cls
 obtain ⟨hp,g,dr,tk,os⟩:=s1
 have hsz : hp.objs.size≤hp.objs.size + 1:=Nat.le_succ _
 have hn : H1 (hp.objs.size + 1)=none:=I1.hok.fresh hsz
 have hq:=q1 (hp.objs.size + 1) hn
 have kk : ∀ b o,hp.get? b=some o→((hp.push (PySem.W.kdv_tup [])).push (PySem.HandSPX.excO C hp.objs.size)).get? b=some o:=fun b o e=>Heap.get?_push_of_some _ (Heap.get?_push_of_some _ e)
 have hget : ((hp.push (PySem.W.kdv_tup [])).push (PySem.HandSPX.excO C hp.objs.size)).get? (hp.objs.size + 1)=some (PySem.HandSPX.excO C hp.objs.size):=by heap_get
 have I2 : Inv X pins σ (upd H1 (hp.objs.size + 1) (exo (hp.objs.size + 1) C none)) ⟨(hp.push (PySem.W.kdv_tup [])).push (PySem.HandSPX.excO C hp.objs.size),g,dr,tk,os⟩ :=
  I1.laid (t':=tk) (a:=hp.objs.size + 1) (o:=exo (hp.objs.size + 1) C none) (h':=(hp.push (PySem.W.kdv_tup [])).push (PySem.HandSPX.excO C hp.objs.size)) kk hsz (exo_ok hget)
 have r2 : Vals [V.ref (hp.objs.size + 1),y] [Value.ref (hp.objs.size + 1),u]:=.cons rfl (.cons r1 .nil)
 refine wpAny_call (PySem.HandSPX.call_ownK F.excBase_ValueError (fun Y=>PySem.HandSPX.refsVE_contains Y bm hbm) (I1.kIn _ _ hC) (PySem.W.looks_findIn I1.kIn iC) (fun self=>PySem.W.bind_fn I1.kIn self tI)
  (codeAny_mono (F1.run _ X.stack _ _ ⟨[Value.ref (hp.objs.size + 1)],[(n,u)]⟩ [Value.ref (hp.objs.size + 1),u] _ _ (fun _ _ _=>False) (hr.make C [] [(n,u)]) (I2.env0.make C [] [(n,u)]) (hb _ _ _) r2 hq) fun r s' hq'=>?_))
 cases r with
 | error er=>exact hx pins σ _ _ er s' I2 hq'
 | ok fl =>
  cases fl with
  | ret u =>
   obtain ⟨v,H',I3,rv,ev,q3⟩:=I2.after hq'
   subst ev
   exact ⟨rv,⟨V.ref (hp.objs.size + 1),H',I3,rfl,q3⟩⟩
  | next=>exact False.elim hq'
  | brk=>exact False.elim hq'
  | cont=>exact False.elim hq'
def tMkK (C : Addr) (sp : Sp) (tk : TA) : TE:=fun σ H Q=>tk σ H fun vs H1=>∃ y,vs = [y]∧∀ a,H1 a=none→sp [.ref a,y] (upd H1 a (exo a C none)) (fun v H2=>v = .non∧Q (.ref a) H2) (fun _ _ _=>False)
theorem pe_oexK {CX : CXT} {x : Str} {C fI : Addr} {k : Nat} {fd : FuncData} {ps : List Str} {sp : Sp} {n : Str} (T : OexC X.K C) (iC : PySem.W.findIn X.K (.ref C) "__init__" = some (some (.ref fI))) (tI : PySem.W.typeIn X.K (.ref fI)=some (.type "function"))
  (F1 : FnOk X.prog X.w X.K X.mg X.base CX k fI fd ps sp) (hr : Room (k + 1) X.A) (hb : ∀ (s : Shared) (u0 u1 : Value),BindsTo s fd ⟨[u0],[(n,u1)]⟩ (ps.zip [u0,u1])) (hx : Passes CX X (fun _ _ _=>False)) (hg : Gl X x) (hm : X.mg x=some (.ref C)) (hk : PK X [⟨some n,e,kpos⟩] tk)
  (hdb : (x == ("__debug__" : Str))=false:=by decide) :
  PE X (.Call (.Name x p) [] [⟨some n,e,kpos⟩] pos) (tMkK C sp tk):=by
 refine ⟨fun pins s σ H Q I h=>?_⟩
 refine wpAny_Call_Name_kw (ld_glob I hg hm ?_ hdb)
 refine PySem.W.callWith_KW0 (h₀:=X.base) I.ok.mod.kin T.kC rfl (thn (hk.run pos pins s σ H _ I h) fun us s1 ⟨vs,H1,I1,r1,y,ev,q1⟩=>⟨I1.kIn,?_⟩) rfl
 subst ev
 cases r1 with
 | cons ry rn =>
  cases rn
  exact run_oexK T iC tI F1 hr hb hx I1 ry q1
end
end L2
namespace Xi
open PySem PySem.Spec PyProof.Rows L2
theorem pe_xiK {file : Str} {X : Cx} {x : Str} {C : Addr} {n : Str} {fl : Str} {e : Expr} {p pos kpos : Pos} {tk : TA} {k : Nat} (h : XiF file X.K C fl) (hpn : ∀ v : XiV,XiK X.prog X.K C (He.ma X.K C "__init__") v→v.x0=n) (px : PxOk file X.prog) (hr : Room (k + 1) X.A) (hsu : X.mg "super" = none) (hg : Gl X x) (hm : X.mg x=some (.ref C)) (hk : PK X [⟨some n,e,kpos⟩] tk)
  (hdb : (x == ("__debug__" : Str))=false:=by decide) :
  PE X (.Call (.Name x p) [] [⟨some n,e,kpos⟩] pos) (tMkK C (spXi C fl) tk):=by
 obtain ⟨⟨v,rfl,hv⟩,hO,hX,hno⟩:=h
 have Y:=hv X.prog px
 obtain rfl:=hpn v Y
 exact pe_oexK (CX:=fun _ _ _ _ _ _=>False) (k:=k) hO Y.ini Y.tyF (fn_xi (w:=X.w) (base:=X.base) Y hsu) hr (fun s u0 u1=>.of_eq (xi_bindK Y.sc.ne u0 u1)) (fun _ _ _ _ _ _ _ z=>False.elim z) hg hm hk hdb
end Xi
end
section
set_option maxHeartbeats 4000000
namespace L2
open PySem PySem.Spec PyProof.Rows
section
variable {X : Cx} {p pos : Pos}
theorem pe_own0 {C : Addr} {bmB : List Value} {B newId initId : String} {x : Str} (F : ExcBaseFacts B newId initId bmB) (q : PySem.W.excIn X.K C bmB newId=true) (gC : X.mg x=some (.ref C))
  (kC : PySem.W.keepIn X.K (.ref C)=true) (hg : Gl X x) (hdb : (x == ("__debug__" : Str))=false:=by decide) :
  PE X (.Call (.Name x p) [] [] pos) (fun σ H Q=>∀ a,H a=none→Q (.ref a) (upd H a (exo a C none))):=by
 refine ⟨fun pins s σ H Q I h=>?_⟩
 refine wpAny_Call_Name_kw (ld_glob I hg gC ?_ hdb)
 refine PySem.W.callWith_K0 I.kIn kC ?_
 show wpAny _ _ (PySem.call (.ref C) []) _ _ _
 obtain ⟨bm,N,nm,qn,bs,hdct,sn,sub,ab,col,dd,k0,k1,k2,k3,k5,mN,hC,hN,hni,T⟩:=exc_obj I.kIn q
 refine wpAny_call_exc_subT F T hC hN hni (fun h' e hm=>?_) (by show 0≤sizeLine; exact Nat.zero_le _)
 have hn:=I.hok.gone hm.new
 obtain ⟨t,ht,_⟩:=hm.there
 exact ⟨.ref e,_,I.laidN hm.keeps hm.new hn (exo_ok ht),rfl,h e hn⟩
theorem pe_cls {y : Str} {cV : V} {cv : Value} (hc : Names X y cv) (rv : RelV cV cv) : PE X (.Name y p) (fun σ H Q=>Q cV H):=by
 refine ⟨fun pins s σ H Q I h=>?_⟩
 obtain ⟨hg,hdbg,hm | ⟨hm,hv,hnn⟩⟩:=hc
 ·exact ld_glob I hg hm ⟨cV,H,I,rv,h⟩ hdbg
 ·exact ld_blt I hg hm hv ⟨cV,H,I,rv,h⟩ hnn hdbg
end
end L2
namespace Fx
open PySem PySem.Spec PyProof.Rows L2
section
variable {X : Cx} {T : Tb} {Wx : WX} {E : En} {TT : Tbl} {C : Callee} {pos p p0 p2 : Pos}
theorem se_mkx0 {cn f : Nat} {x : Str} {CA : Addr} {bmB : List Value} {B newId initId : String} (hcl : T.exV cn=some CA) (F : ExcBaseFacts B newId initId bmB) (q : PySem.W.excIn X.K CA bmB newId=true) (gC : X.mg x=some (.ref CA))
  (kC : PySem.W.keepIn X.K (.ref CA)=true) (hg : Gl X x) (hdb : (x == ("__debug__" : Str))=false:=by decide) : SE X T Wx TT C true (.Call (.Name x p) [] [] pos) (.mkx0 cn f):=by
 refine PE.wk (pe_own0 F q gC kC hg hdb) fun σ H Q q a hn=>?_
 simp only [ev] at q
 obtain ⟨W,fr,h,r0,k⟩:=q
 obtain ⟨nz,no⟩:=(WH.of r0).new hn
 have xt : Ext H (upd H a (exo a CA none)):=Ext.upd hn
 have r2 : RX X T W (upd H a (exo a CA none)) fr σ h:=r0.ext xt
 have r3:=zrk (p:=a) nz no (fun u od w z=>by rw [upd_same] at z; cases z; exact exo_frz) r2
 exact k _ (.ref a) _ (zgu nz hn (Evo.ext xt)) r3 (Rp.exc0 (G:=gl X T) hcl (zo0 upd_same))
structure ExvOk (T : Tb) (K : PySem.W.Frag) : Prop where
 at_ : ∀ cc CA,T.exV cc=some CA→ExcC K CA∧XfC K CA
theorem se_isx {d : Nat} {f : Bool} {e : Expr} {xe : Exp} {y : Str} {cV : V} {cv : Value} (ok : ExvOk T X.K) (hK : ∀ cc CA,T.exV cc=some CA→PySem.W.kitOne X.K (.ref CA) cv=some (TT.excs cc d)) (ha : SE X T Wx TT C f e xe)
  (hg : Gl X "isinstance") (hm : X.mg "isinstance" = none) (hy : Names X y cv) (rv : RelV cV cv) (ru : ∀ u,RelV cV u→u=cv)
  (he : starEach [e,.Name y p2] X.env=(false,eval e X.env) :: starEach [.Name y p2] X.env:=by rfl) (he2 : starEach [.Name y p2] X.env=(false,eval (.Name y p2) X.env) :: starEach [] X.env:=by rfl) (hpl : (PySem.backTo pos (starEach [.Name y p2] X.env)).any (·.1)=false:=by rfl) :
  SE X T Wx TT C true (.Call (.Name "isinstance" p0) [e,.Name y p2] [] pos) (.isx d xe):=by
 refine PE.wk (pe_callB (id:="isinstance") call_isV hg hm rfl (pa_cons ha (pa_cons (pe_cls hy rv) pa_nil he2) he) (by decide) (by decide) he hpl) fun σ H Q q=>?_
 simp only [ev] at q
 obtain ⟨W,fr,h,r0,a⟩:=q
 refine ⟨W,fr,h,r0,bndE a fun v H1 W1 w fr1 h1 ev1 r1 rr a=>?_⟩
 cases w with
 | exc c g as =>
  have rr : Rp (gl X T) W1 (.exc c g as) v:=by cases f <;> exact rr
  have wh:=WH.of r1
  cases rr with
  | exc0 h1 h2=>exact ⟨_,_,cV,cv,_,rfl,ru,(ok.at_ _ _ h1).1,.inl (wh.zin _ _ h2).1,hK _ _ h1,a W1 _ H1 (Evo.refl _ _) r1 (Rp.bool _)⟩
  | exc1 h1 h2 h3 h4=>exact ⟨_,_,cV,cv,_,rfl,ru,(ok.at_ _ _ h1).1,.inr ⟨_,_,(wh.zin _ _ h2).1,(wh.zin _ _ h3).1⟩,hK _ _ h1,a W1 _ H1 (Evo.refl _ _) r1 (Rp.bool _)⟩
 | _=>exact a.elim
theorem zes {g : Nat} {f : Bool} {e : Expr} {xe : Exp} {n : Str} (ok : ExvOk T X.K) (hn : T.fldN g=n) (hX : ∀ cc CA,T.exV cc=some CA→PySem.W.findIn X.K (.ref CA) n=some none) (ha : SE X T Wx TT C f e xe) (hb : attributeBase e n X.env (eval e X.env)=eval e X.env:=by rfl) :
  SE X T Wx TT C false (.Attribute e n pos) (.xfld g xe):=by
 refine PE.wk (pe_xfV ha hb) fun σ H Q q=>?_
 simp only [ev] at q
 obtain ⟨W,fr,h,r0,a⟩:=q
 refine ⟨W,fr,h,r0,bndE a fun v H1 W1 w fr1 h1 ev1 r1 rr a=>?_⟩
 match w,rr,a with
 | .exc c g2 [w],rr,a =>
  have rr : Rp (gl X T) W1 (.exc c g2 [w]) v:=by cases f <;> exact rr
  have a : AfX X T Wx σ (ResR (gl X T) false H) W1 H1 ((if g=g2 then rt w else fun _ _=>.stuck) fr1 h1) Q:=a
  have wh:=WH.of r1
  by_cases eg : g=g2
  ·subst eg
   rw [if_pos rfl] at a
   cases rr with
   | exc1 h1 h2 h3 h4 =>
    have ln : ∀ x : V,([(T.fldN g,x)] : List (Str × V)).lookup n=some x:=fun x=>by rw [hn]; simp [List.lookup]
    exact ⟨_,_,_,_,_,rfl,(ok.at_ _ _ h1).2,hX _ _ h1,(wh.zin _ _ h2).1,(wh.zin _ _ h3).1,ln _,a W1 _ H1 (Evo.refl _ _) r1 h4⟩
  ·rw [if_neg eg] at a; exact a.elim
 | .none,_,a=>exact a.elim
 | .bool _,_,a=>exact a.elim
 | .int _,_,a=>exact a.elim
 | .str _,_,a=>exact a.elim
 | .tup _ _,_,a=>exact a.elim
 | .lst _,_,a=>exact a.elim
 | .dct _,_,a=>exact a.elim
 | .ref _,_,a=>exact a.elim
 | .fn _,_,a=>exact a.elim
 | .clo _ _,_,a=>exact a.elim
 | .exc _ _ [],_,a=>exact a.elim
 | .exc _ _ (_ :: _ :: _),_,a=>exact a.elim
end
end Fx
end
section
set_option maxHeartbeats 4000000
namespace Xi
open PySem PySem.Spec PyProof.Rows L2
theorem xnB_ok {K : PySem.W.Frag} {C : Addr} {n : Str} (h : xnB K C n=true) (P : Program) (v : XiV) (Y : XiK P K C (He.ma K C "__init__") v) : v.x0=n:=by
 obtain ⟨oc,od,osl,lk⟩:=Y.lk
 unfold xnB at h
 rw [lk] at h
 dsimp only at h
 cases e : xiOf v.fd with
 | none=>rw [e] at h; cases h
 | some w =>
  rw [e] at h
  have ew:=xiOf_eq e
  have h : (w.x0 == n)=true:=h
  have : v.x0=w.x0:=by
   have q:=congrArg (fun f : FuncData=>f.params.args.map (·.arg)) ew
   simp [XiV.fd,PySem.W.fnX] at q
   exact q.2
  rw [this]
  exact beq_iff_eq.mp h
end Xi
namespace Fx
open PySem PySem.Spec PyProof.Rows L2
section
variable {X : Cx} {T : Tb} {Wx : WX} {E : En} {TT : Tbl} {C : Callee} {pos p kpos : Pos}
theorem zeu {file : Str} {cn f k : Nat} {x n : Str} {e : Expr} {xe : Exp} {CA : Addr} (hcl : T.exV cn=some CA) (h : Xi.XiF file X.K CA (T.fldN f)) (hn : Xi.xnB X.K CA n=true) (px : Xi.PxOk file X.prog) (hr : Room (k + 1) X.A) (hsu : X.mg ("super" : Str)=none) (hg : Gl X x) (hm : X.mg x=some (.ref CA))
  (ha : SE X T Wx TT C false e xe) (hdb : (x == ("__debug__" : Str))=false:=by decide) :
  SE X T Wx TT C true (.Call (.Name x p) [] [⟨some n,e,kpos⟩] pos) (.mkx cn f xe):=by
 refine PE.wk (Xi.pe_xiK h (fun v Y=>Xi.xnB_ok hn X.prog v Y) px hr hsu hg hm (pk_cons ha pk_nil) hdb) fun σ H Q q=>?_
 simp only [ev] at q
 obtain ⟨W,fr,h,r0,a⟩:=q
 refine ⟨W,fr,h,r0,bndE a fun y H1 W1 v fr1 h1 ev1 r1 rr a=>⟨y,rfl,fun p hp=>⟨p,y,rfl,upd_same,fun dx hdx dne=>⟨rfl,?_⟩⟩⟩⟩
 have ry : Rp (gl X T) W1 v y:=by cases v <;> exact rr
 have hd1 : H1 dx=none:=by rw [upd_ne dne] at hdx; exact hdx
 have eH : upd (upd (upd H1 p (exo p CA none)) dx (exd dx [(T.fldN f,y)])) p (exo p CA (some dx))=upd (upd H1 dx (exd dx [(T.fldN f,y)])) p (exo p CA (some dx)):=by
  funext b
  by_cases hp' : b=p
  ·rw [hp',upd_same,upd_same]
  ·rw [upd_ne hp',upd_ne hp']
   by_cases hb : b=dx
   ·rw [hb,upd_same,upd_same]
   ·rw [upd_ne hb,upd_ne hb,upd_ne hp']
 rw [eH]
 have xt : Ext H1 (upd H1 dx (exd dx [(T.fldN f,y)])):=Ext.upd hd1
 obtain ⟨nz,no⟩:=(WH.of r1).new hd1
 have r2 : RX X T W1 (upd H1 dx (exd dx [(T.fldN f,y)])) fr1 σ h1:=r1.ext xt
 have r3:=zrk (p:=dx) nz no (fun u od w z=>by rw [upd_same] at z; cases z; exact exd_frz) r2
 have ev2 : Evo W1 H1 (W1.fix (upd H1 dx (exd dx [(T.fldN f,y)])) dx) (upd H1 dx (exd dx [(T.fldN f,y)])):=zgu nz hd1 (Evo.ext xt)
 have hp2 : (upd H1 dx (exd dx [(T.fldN f,y)])) p=none:=by rw [upd_ne (Ne.symm dne)]; exact hp
 have xt2 : Ext (upd H1 dx (exd dx [(T.fldN f,y)])) (upd (upd H1 dx (exd dx [(T.fldN f,y)])) p (exo p CA (some dx))):=Ext.upd hp2
 have r3 : RX X T (W1.fix (upd H1 dx (exd dx [(T.fldN f,y)])) dx) (upd H1 dx (exd dx [(T.fldN f,y)])) fr1 σ h1:=r3
 obtain ⟨nz2,no2⟩:=(WH.of r3).new hp2
 have r4 : RX X T (W1.fix (upd H1 dx (exd dx [(T.fldN f,y)])) dx) (upd (upd H1 dx (exd dx [(T.fldN f,y)])) p (exo p CA (some dx))) fr1 σ h1:=r3.ext xt2
 have r5:=zrk (p:=p) nz2 no2 (fun u od w z=>by rw [upd_same] at z; cases z; exact exo_frz) r4
 have ev3:=zgu nz2 hp (ev2.trans (Evo.ext xt2))
 have zd : (W1.fix (upd H1 dx (exd dx [(T.fldN f,y)])) dx).Z dx=some (exd dx [(T.fldN f,y)]):=zo0 upd_same
 refine a _ (.ref p) _ ev3 r5 ?_
 exact Rp.exc1 (G:=gl X T) hcl (zo0 upd_same) ((zdE nz2).le.Z _ _ zd) ((ry.le (zdE nz).le).le (zdE nz2).le)
end
end Fx
end
section
set_option maxHeartbeats 4000000
namespace Fx
open PySem PySem.Spec PyProof.Rows L2
theorem excCB_ok {K : PySem.W.Frag} {D : Addr} (h : excCB K D=true) : ExcC K D∧XfC K D:=by
 unfold excCB at h
 simp only [Bool.and_eq_true,decide_eq_true_eq] at h
 obtain ⟨h1,h2,h3,h4,h5,h6,h7,h8,h9⟩:=h
 exact ⟨⟨h1,h2,h3,h4,h5,h6,h7,h8⟩,xfB_ok h9⟩
section
variable {X : Cx} {T : Tb} {Wx : WX} {E : En} {TT : Tbl} {C : Callee} {pos p p0 p2 : Pos} {K : PySem.W.Frag} {l : List (Nat × Addr)}
theorem exvOk_of (hl : ∀ cc CA,T.exV cc=some CA→(cc,CA)∈l) (h : excvB K l=true) : ExvOk T K:=⟨fun cc CA e=>excCB_ok (List.all_eq_true.mp h (cc,CA) (hl cc CA e))⟩
theorem zd3 {ex : Nat→Nat→Bool} {d : Nat} {cv : Value} (hl : ∀ cc CA,T.exV cc=some CA→(cc,CA)∈l) (h : isxB K ex d cv l=true) : ∀ cc CA,T.exV cc=some CA→PySem.W.kitOne K (.ref CA) cv=some (ex cc d):=fun cc CA e=>of_decide_eq_true (List.all_eq_true.mp h (cc,CA) (hl cc CA e))
theorem zqq {n : Str} (hl : ∀ cc CA,T.exV cc=some CA→(cc,CA)∈l) (h : xfnB K n l=true) : ∀ cc CA,T.exV cc=some CA→PySem.W.findIn K (.ref CA) n=some none:=fun cc CA e=>of_decide_eq_true (List.all_eq_true.mp h (cc,CA) (hl cc CA e))
theorem zcg {d : Nat} {f : Bool} {e : Expr} {xe : Exp} {y : Str} {Da : Addr} (ok : ExvOk T X.K) (hK : ∀ cc CA,T.exV cc=some CA→PySem.W.kitOne X.K (.ref CA) (.ref Da)=some (TT.excs cc d)) (ha : SE X T Wx TT C f e xe)
  (hg : Gl X "isinstance") (hm : X.mg "isinstance" = none) (hgy : Gl X y) (hmy : X.mg y=some (.ref Da)) (hdy : (y == ("__debug__" : Str))=false:=by decide)
  (he : starEach [e,.Name y p2] X.env=(false,eval e X.env) :: starEach [.Name y p2] X.env:=by rfl) (he2 : starEach [.Name y p2] X.env=(false,eval (.Name y p2) X.env) :: starEach [] X.env:=by rfl) (hpl : (PySem.backTo pos (starEach [.Name y p2] X.env)).any (·.1)=false:=by rfl) :
  SE X T Wx TT C true (.Call (.Name "isinstance" p0) [e,.Name y p2] [] pos) (.isx d xe) :=
 se_isx (cV:=.ref Da) ok hK ha hg hm ⟨hgy,hdy,.inl hmy⟩ rfl (fun _ h=>h) he he2 hpl
theorem zjX {d : Nat} {f : Bool} {e : Expr} {xe : Exp} {y : Str} {n : String} (ok : ExvOk T X.K) (hK : ∀ cc CA,T.exV cc=some CA→PySem.W.kitOne X.K (.ref CA) (.type n)=some (TT.excs cc d)) (ha : SE X T Wx TT C f e xe)
  (hg : Gl X "isinstance") (hm : X.mg "isinstance" = none) (hgy : Gl X y) (hmy : X.mg y=none) (hv : bootBuiltins y=some (.type n)) (hnn : y≠"__name__":=by decide) (hdy : (y == ("__debug__" : Str))=false:=by decide)
  (he : starEach [e,.Name y p2] X.env=(false,eval e X.env) :: starEach [.Name y p2] X.env:=by rfl) (he2 : starEach [.Name y p2] X.env=(false,eval (.Name y p2) X.env) :: starEach [] X.env:=by rfl) (hpl : (PySem.backTo pos (starEach [.Name y p2] X.env)).any (·.1)=false:=by rfl) :
  SE X T Wx TT C true (.Call (.Name "isinstance" p0) [e,.Name y p2] [] pos) (.isx d xe) :=
 se_isx (cV:=.ty n) ok hK ha hg hm ⟨hgy,hdy,.inr ⟨hmy,hv,hnn⟩⟩ rfl (fun _ h=>h) he he2 hpl
end
end Fx
end
section
set_option maxHeartbeats 4000000
namespace Fx
open PySem PySem.Spec PyProof.Rows L2 He
theorem exAt {K : PySem.W.Frag} {l : List (PySem.W.Frag→Bool)} (h : (l.all fun b=>b K)=true) (i : Nat) {b : PySem.W.Frag→Bool} (e : l[i]? = some b) : b K=true:=List.all_eq_true.mp h b (List.mem_of_getElem? e)
theorem law_sp {P : Program} {w : World} {K : PySem.W.Frag} {T : Tb} {TT : Tbl} {N g : Nat} {H : Hp} {a : Addr} {ns : List Int} (hT : ∀ p nm,T.tab p=some nm→H p=some (.tbl #[])) (hS : SqL K H a (ns.map V.int))
  (hp : ∃ outs h',call TT N (.fn g) [.val (.lst (ns.map Val.int))] ⟨[],[]⟩ = .ok (.bool true) outs h') : zcF (gOf P w K T) T.ExR (call TT N) (isFn g) false [] [.ref a] H (fun v _=>v = .bl true) fun _ _ _=>False:=by
 obtain ⟨outs,h',e⟩:=hp
 have rps : ∀ (W : Wd) (l : List Int),Rps (gOf P w K T) W (l.map Val.int) (l.map V.int):=fun W l=>by
  induction l with
  | nil=>exact .nil
  | cons i l ih=>exact .cons (.int i) ih
 -- the world
 have go : ∀ (z : Option HO) (f : Option Obj),(∀ o,z=some o→(Rd H a o∧(∀ od u,o≠.frz od u)∧(∀ vs,o = .lst vs→f=none→H a=some o)∧T.tab a=none))→(∀ od,f=some od→∃ u,z=some u∧H a=some (.frz od u)) →
   SqL K (fun p=>if p=a then z else none) a (ns.map V.int)→zcF (gOf P w K T) T.ExR (call TT N) (isFn g) false [] [.ref a] H (fun v _=>v = .bl true) fun _ _ _=>False:=fun z f hz hf hs=>by
  let W : Wd:=⟨fun p=>if p=a then z else none,fun p=>if p=a then f else none,[],[],fun p=>match T.tab p with | some _=>some .tab | none=>none,fun _ _=>False,fun _=>False,fun _=>none⟩
  have own : ∀ {p r},W.own p=some r→r = .tab∧∃ nm,T.tab p=some nm:=fun {p r} q=>by
   have q : (match T.tab p with | some _=>some zaB.tab | none=>none)=some r:=q
   cases q2 : T.tab p with
   | none=>rw [q2] at q; cases q
   | some nm=>rw [q2] at q; cases q; exact ⟨rfl,nm,rfl⟩
  refine ⟨W,[.val (.lst (ns.map Val.int))],⟨[],[]⟩,.fn g,rfl,⟨fun p o q=>?_,fun p od q=>?_,fun p r q=>?_,fun p q a f z _=>(nomatch (own z).1),fun q a f z=>(nomatch (own z).1),fun a f=>⟨fun z=>z.elim,fun z=>by cases z⟩,rfl,⟨rfl,fun _ _ _=>id⟩,fun a o z=>by simp at z,fun c v z=>by simp at z,fun p nm q=>?_,fun c d a _ _ z=>by simp [W] at z,fun c a _ z=>by simp [W] at z,fun k P q z=>by simp [W] at z⟩,⟨rfl,fun j s x h1 h2=>?_,fun j s h1=>?_⟩,fun p j z=>(nomatch (own z).1),fun p j z=>(nomatch (own z).1),?_⟩
  ·have q : (if p=a then z else none)=some o:=q
   by_cases ep : p=a
   ·subst ep
    rw [if_pos rfl] at q
    obtain ⟨h1,h2,h3,h4⟩:=hz o q
    refine ⟨h1,?_,h2,fun vs e f'=>h3 vs e ((if_pos rfl).symm.trans f')⟩
    show (match T.tab p with | some _=>some zaB.tab | none=>none)=none
    rw [h4]
   ·rw [if_neg ep] at q; cases q
  ·have q : (if p=a then f else none)=some od:=q
   by_cases ep : p=a
   ·subst ep
    rw [if_pos rfl] at q
    obtain ⟨u,h1,h2⟩:=hf od q
    exact ⟨u,(if_pos rfl).trans h1,h2⟩
   ·rw [if_neg ep] at q; cases q
  ·obtain ⟨_,nm,q⟩:=own q
   rw [hT p nm q]; exact nofun
  ·have q : T.tab p=some nm:=q
   refine ⟨?_,#[],hT p nm q,trivial,fun pos cv h=>by cases h⟩
   show (match T.tab p with | some _=>some zaB.tab | none=>none)=some .tab
   rw [q]
  ·cases j with
   | zero =>
    simp at h1 h2
    subst h1; subst h2
    exact Rp.lst hs (rps W ns)
   | succ j=>simp at h1
  ·cases j with
   | zero=>simp at h1; subst h1; exact .inl ⟨_,rfl⟩
   | succ j=>simp at h1
  ·rw [e]
   intro W' x H' _ _ _ r
   cases r
   rfl
 have ta : ∀ {o : HO},H a=some o→(∀ ps,o≠.tbl ps)→T.tab a=none:=fun {o} e n=>by
  cases q : T.tab a with
  | none=>rfl
  | some nm=>have:=hT a nm q; rw [e] at this; cases this; exact absurd rfl (n _)
 rcases hS with (h1 | ⟨od,h1⟩) | h1
 ·exact go (some (.lst (ns.map V.int))) none (fun o q=>by cases q; exact ⟨.inl h1,fun _ _=>nofun,fun _ _ _=>h1,ta h1 (fun _=>nofun)⟩) (fun _ q=>by cases q) (.inl (.inl (if_pos rfl)))
 ·exact go (some (.lst (ns.map V.int))) (some od) (fun o q=>by cases q; exact ⟨.inr ⟨od,h1⟩,fun _ _=>nofun,fun _ _ z=>(by cases z),ta h1 (fun _=>nofun)⟩) (fun od' q=>by cases q; exact ⟨_,rfl,h1⟩) (.inl (.inl (if_pos rfl)))
 ·exact go none none (fun _ q=>by cases q) (fun _ q=>by cases q) (.inr h1)
end Fx
end
section
namespace K
open Fx
open PySem (Str)
abbrev zcI : Nat:=100
abbrev zcx : Nat:=101
abbrev zeo : Nat:=102
abbrev zbP : Nat:=103
abbrev zdi : Nat:=104
abbrev zeV : Nat:=105
abbrev zcH : Nat:=106
abbrev zep : Nat:=107
abbrev zcK : Nat:=108
abbrev zcJ : Nat:=109
abbrev zcG : Nat:=110
abbrev zdN : Nat:=111
abbrev zgG : Nat:=112
abbrev zeW : Nat:=114
abbrev zdZ : Nat:=115
abbrev zdM : Nat:=116
abbrev zeD : Nat:=75
abbrev zby : Nat:=76
abbrev zbQ : Nat:=78
abbrev l_object : Nat:=91
abbrev znQ : Nat:=92
abbrev l_pairs : Nat:=93
abbrev zqi : Nat:=1
abbrev zq5 : Nat:=6
abbrev zq6 : Nat:=7
abbrev zc7 : Nat:=8
abbrev zay : Nat:=9
abbrev zcX : Nat:=1
abbrev zn2 : Nat:=10
abbrev zan : Nat:=11
abbrev zcN : Nat:=12
abbrev ziD : Nat:=13
abbrev zeN : Nat:=4
abbrev zoi : Nat:=5
abbrev zgx : Nat:=6
abbrev zaJ : Nat:=0
abbrev zb1 : Nat:=1
abbrev zfl : Nat:=4
abbrev f_idle : Nat:=17
abbrev zcs : Nat:=18
abbrev zaO : Nat:=19
abbrev zcU : Nat:=20
abbrev zcT : Nat:=21
abbrev zcr : Nat:=22
abbrev zdo : Nat:=23
abbrev zmU : Nat:=77
abbrev zqj : Nat:=0
abbrev C_Run : Nat:=2
abbrev F_now : Nat:=0
abbrev ziC : Nat:=2
abbrev zd2 : Nat:=3
abbrev zbc : Nat:=4
abbrev zel : Nat:=5
abbrev zbj : Nat:=14
abbrev zdL : Nat:=15
abbrev zga : Nat:=16
abbrev zol : Nat:=0
abbrev ziy : Nat:=1
abbrev zbi : Nat:=2
abbrev zbt : Nat:=3
abbrev M_look : Nat:=7
abbrev M_put : Nat:=8
abbrev zln : Nat:=9
abbrev zru : Nat:=10
abbrev M_say : Nat:=11
abbrev M_fail : Nat:=12
abbrev zix : Nat:=13
abbrev M_end : Nat:=14
abbrev M_said : Nat:=15
abbrev zcu : Nat:=5
abbrev zds : Nat:=6
abbrev zeb : Nat:=7
abbrev zbY : Nat:=8
abbrev zcW : Nat:=9
abbrev zea : Nat:=10
abbrev zdt : Nat:=11
abbrev zbf : Nat:=12
abbrev zaE : Nat:=13
abbrev zcb : Nat:=14
abbrev zcV : Nat:=15
abbrev zbL : Nat:=16
abbrev zcS : Nat:=26
abbrev zdF : Nat:=27
abbrev zcn : Nat:=28
abbrev zdp : Nat:=29
abbrev zfm : Nat:=30
abbrev ze9 : Nat:=31
abbrev zaN : Nat:=32
abbrev zcp : Nat:=33
abbrev zbX : Nat:=34
abbrev zbq : Nat:=35
abbrev zcm : Nat:=36
abbrev zbz : Nat:=37
abbrev zcq : Nat:=38
abbrev zbp : Nat:=39
abbrev zcR : Nat:=40
abbrev zco : Nat:=41
abbrev zbe : Nat:=42
abbrev zdr : Nat:=43
abbrev zdq : Nat:=44
abbrev zhg : Nat:=79
abbrev zpv : Nat:=80
abbrev l_ask : Nat:=81
abbrev l_play : Nat:=82
abbrev zeC : Nat:=83
abbrev zma : Nat:=84
abbrev l_plan : Nat:=85
abbrev zib : Nat:=86
abbrev zkR : Nat:=87
abbrev zpw : Nat:=88
abbrev zb7 : Nat:=16
abbrev zdx : Nat:=17
abbrev zee : Nat:=20
abbrev zfp : Nat:=18
abbrev zjJ : Nat:=19
abbrev ziT : Nat:=21
abbrev zhs : Nat:=22
abbrev zlm : Nat:=23
abbrev zht : Nat:=24
abbrev zfH : Nat:=24
abbrev l_late : Nat:=105
abbrev zgp : Nat:=106
abbrev zic : Nat:=107
abbrev zhf : Nat:=111
abbrev l_fits : Nat:=112
abbrev zfG : Nat:=113
abbrev l_kept : Nat:=114
abbrev zd9 : Nat:=25
abbrev zok : Nat:=26
abbrev zll : Nat:=27
abbrev zoj : Nat:=28
abbrev zaG : Nat:=2
abbrev zcL : Nat:=25
abbrev zra : Nat:=117
abbrev l_left : Nat:=118
abbrev zif : Nat:=119
abbrev C_Left : Nat:=3
abbrev zrL : Nat:=4
abbrev ziW : Nat:=17
abbrev zem : Nat:=18
abbrev F_plan : Nat:=19
abbrev zce : Nat:=20
abbrev zdd : Nat:=21
abbrev zde : Nat:=22
abbrev zfu : Nat:=23
abbrev zaX : Nat:=24
abbrev M_add : Nat:=29
abbrev zdI : Nat:=30
abbrev zfq : Nat:=31
abbrev zct : Nat:=45
abbrev zc0 : Nat:=46
abbrev zcC : Nat:=47
abbrev zbA : Nat:=48
abbrev zb2 : Nat:=49
abbrev zbZ : Nat:=50
abbrev zbM : Nat:=51
abbrev zca : Nat:=52
abbrev zc9 : Nat:=56
abbrev zo4 : Nat:=57
abbrev zeM : Nat:=32
abbrev zfM : Nat:=33
abbrev ze7 : Nat:=3
abbrev ze8 : Nat:=53
abbrev zl9 : Nat:=55
abbrev zhm : Nat:=58
abbrev zeG : Nat:=59
abbrev zcB : Nat:=60
abbrev zlb : Nat:=61
abbrev f_some : Nat:=62
abbrev zo3 : Nat:=63
abbrev zeF : Nat:=64
abbrev zd7 : Nat:=65
abbrev zjD : Nat:=66
abbrev zdn : Nat:=67
abbrev zo2 : Nat:=68
abbrev zla : Nat:=69
abbrev zbW : Nat:=70
abbrev zcQ : Nat:=71
abbrev zbd : Nat:=72
abbrev zdT : Nat:=73
abbrev zkS : Nat:=144
abbrev zfh : Nat:=145
abbrev zid : Nat:=146
abbrev znO : Nat:=147
abbrev f_left : Nat:=54
abbrev zr9 : Nat:=148
abbrev ze4 : Nat:=149
abbrev l_walk : Nat:=150
abbrev zdR : Nat:=154
abbrev znP : Nat:=156
abbrev zcl : Nat:=74
abbrev zkQ : Nat:=170
abbrev zie : Nat:=179
abbrev zkT : Nat:=180
def zaQ : Def:={ params:=2,slots:=3,za1:=[],cells:=[],defaults:=[],fresh:=true,esc:=false,lent:=[],freshT:=[],body:=(.cons (.asg (.var 2) (.ifx (.prim .lt (.e (.var 1) (.e (.prim .len (.e (.var 0) .nil)) .nil))) (.prim .item (.e (.var 0) (.e (.var 1) .nil))) (.prim .add (.e (.prim .mul (.e (.lit (.int 7)) (.e (.var 1) .nil))) (.e (.lit (.int 5)) .nil))))) (.cons (.ret (.lst (.cons (.ifx (.prim .ge (.e (.var 2) (.e (.prim .pow (.e (.lit (.int 10)) (.e (.lit (.int 18)) .nil))) .nil))) (.var 2) (.lit (.int 0))) (.cons (.prim .mod (.e (.prim .toInt (.e (.var 2) .nil)) (.e (.lit (.int 2147483647)) .nil))) (.cons (.lit (.int 0)) .nil))))) .nil)) }
def zgA : Def:={ params:=2,slots:=3,za1:=[],cells:=[],defaults:=[],fresh:=false,esc:=false,lent:=[0],freshT:=[],body:=(.cons (.ite (.prim .gt (.e (.prim .item (.b 0 (.e (.lit (.int 0)) .nil))) (.e (.lit (.int 0)) .nil))) (.cons (.asg (.var 2) (.prim .mod (.e (.prim .toInt (.e (.prim .item (.b 0 (.e (.lit (.int 0)) .nil))) .nil)) (.e (.var 1) .nil)))) (.cons (.setI (.slot 0) (.lit (.int 0)) (.prim .fdiv (.e (.prim .item (.b 0 (.e (.lit (.int 0)) .nil))) (.e (.var 1) .nil)))) (.cons (.ret (.var 2)) .nil))) .nil) (.cons (.setI (.slot 0) (.lit (.int 2)) (.prim .add (.e (.prim .item (.b 0 (.e (.lit (.int 2)) .nil))) (.e (.lit (.int 1)) .nil)))) (.cons (.setI (.slot 0) (.lit (.int 1)) (.prim .mod (.e (.prim .toInt (.e (.prim .add (.e (.prim .add (.e (.prim .mul (.e (.prim .item (.b 0 (.e (.lit (.int 1)) .nil))) (.e (.lit (.int 48271)) .nil))) (.e (.prim .mul (.e (.prim .item (.b 0 (.e (.lit (.int 2)) .nil))) (.e (.lit (.int 7919)) .nil))) .nil))) (.e (.lit (.int 12345)) .nil))) .nil)) (.e (.lit (.int 2147483647)) .nil)))) (.cons (.ret (.prim .mod (.e (.prim .toInt (.e (.prim .add (.e (.prim .fdiv (.e (.prim .item (.b 0 (.e (.lit (.int 1)) .nil))) (.e (.lit (.int 65536)) .nil))) (.e (.prim .item (.b 0 (.e (.lit (.int 1)) .nil))) .nil))) .nil)) (.e (.var 1) .nil)))) .nil)))) }
def zeR : Def:={ params:=2,slots:=4,za1:=[],cells:=[],defaults:=[],fresh:=false,esc:=false,lent:=[],freshT:=[],body:=(.cons (.ite (.prim (.isinst [.lst,.tup]) (.e (.var 1) .nil)) (.cons (.ite (.or (.prim .ne (.e (.prim (.isinst [.lst]) (.e (.var 0) .nil)) (.e (.prim (.isinst [.lst]) (.e (.var 1) .nil)) .nil))) (.prim .ne (.e (.prim (.isinst [.tup]) (.e (.var 0) .nil)) (.e (.prim (.isinst [.tup]) (.e (.var 1) .nil)) .nil)))) (.cons (.ret (.lit (.bool false))) .nil) .nil) (.cons (.ret (.and (.prim .eq (.e (.prim .len (.e (.var 0) .nil)) (.e (.prim .len (.e (.var 1) .nil)) .nil))) (.prim .all (.e (.comp (.call zbQ (.e (.var 2) (.e (.var 3) .nil))) [2,3] (.tup [(.var 2),(.var 3)]) (.zip (.cons (.var 0) (.cons (.var 1) .nil))) .nil) .nil)))) .nil)) .nil) (.cons (.ite (.prim (.isinst [.bool,.int]) (.e (.var 1) .nil)) (.cons (.ret (.and (.prim (.isinst [.int]) (.e (.var 0) .nil)) (.and (.prim .eq (.e (.prim (.isinst [.bool]) (.e (.var 0) .nil)) (.e (.prim (.isinst [.bool]) (.e (.var 1) .nil)) .nil))) (.prim .eq (.e (.var 0) (.e (.var 1) .nil)))))) .nil) .nil) (.cons (.ret (.and (.not (.prim (.isinst [.bool,.int,.lst,.tup]) (.e (.var 0) .nil))) (.prim .eq (.e (.var 0) (.e (.var 1) .nil))))) .nil))) }
def zov : Def:={ params:=1,slots:=1,za1:=[],cells:=[],defaults:=[],fresh:=false,esc:=false,lent:=[],freshT:=[],body:=(.cons (.ret (.and (.prim (.isinst [.int]) (.e (.var 0) .nil)) (.not (.prim (.isinst [.bool]) (.e (.var 0) .nil))))) .nil) }
def zrF : Def:={ params:=1,slots:=2,za1:=[],cells:=[],defaults:=[],fresh:=false,esc:=false,lent:=[],freshT:=[],body:=(.cons (.ite (.prim (.isinst [.tup]) (.e (.var 0) .nil)) (.cons (.ret (.prim .all (.e (.comp (.call zb1 (.e (.var 1) .nil)) [1] (.var 1) (.e (.var 0)) .nil) .nil))) .nil) .nil) (.cons (.ret (.or (.prim .isNone (.e (.var 0) .nil)) (.prim (.isinst [.int,.str]) (.e (.var 0) .nil)))) .nil)) }
def Df_is_word : Def:={ params:=1,slots:=2,za1:=[],cells:=[],defaults:=[],fresh:=false,esc:=false,lent:=[],freshT:=[],body:=(.cons (.ite (.or (.not (.prim (.isinst [.str]) (.e (.var 0) .nil))) (.not (.chain .le .le (.lit (.int 1)) (.prim .len (.e (.var 0) .nil)) (.lit (.int 8))))) (.cons (.ret (.lit (.bool false))) .nil) .nil) (.cons (.ret (.prim .all (.e (.comp (.chain .le .le (.lit (.str "a")) (.var 1) (.lit (.str "z"))) [1] (.var 1) (.e (.var 0)) .nil) .nil))) .nil)) }
def Df_idle : Def:={ params:=1,slots:=1,za1:=[],cells:=[],defaults:=[],fresh:=false,esc:=false,lent:=[],freshT:=[],body:=(.cons .pass .nil) }
def zmn : Def:={ params:=7,slots:=7,za1:=[],cells:=[],defaults:=[(2,.none),(4,(.tup false [])),(5,(.int 40)),(6,(.int 400))],fresh:=false,esc:=false,lent:=[],freshT:=[],body:=(.cons (.setF (.var 0) zq5 (.var 1)) (.cons (.setF (.var 0) zq6 (.ifx (.prim .notNone (.e (.var 2) .nil)) (.var 2) (.lit (.fn f_idle)))) (.cons (.setF (.var 0) zc7 (.prim .dict (.e (.var 3) .nil))) (.cons (.setF (.var 0) zay (.prim .list (.e (.var 4) .nil))) (.cons (.expr (.meth (.var 0) zeN .nil [])) (.cons (.ite (.or (.not (.call zaJ (.e (.var 5) .nil))) (.not (.chain .le .le (.lit (.int 1)) (.var 5) (.lit (.int 60))))) (.cons .never .nil) .nil) (.cons (.ite (.or (.not (.call zaJ (.e (.var 6) .nil))) (.not (.chain .le .le (.lit (.int 1)) (.var 6) (.lit (.int 2000))))) (.cons .never .nil) .nil) (.cons (.setF (.var 0) zcX (.var 5)) (.cons (.setF (.var 0) zn2 (.var 6)) (.cons (.setF (.var 0) zan (.lst .nil)) (.cons (.setF (.var 0) zcN (.lst .nil)) (.cons (.setF (.var 0) ziD (.lit .none)) .nil)))))))))))) }
def zgC : Def:={ params:=1,slots:=3,za1:=[],cells:=[],defaults:=[],fresh:=false,esc:=false,lent:=[],freshT:=[],body:=(.cons (.for (.var 1) (.e (.fld (.var 0) zc7)) (.cons (.ite (.not (.call zfl (.e (.var 1) .nil))) (.cons .never .nil) .nil) .nil)) (.cons (.for (.tup [(.var 2),(.var 1)]) (.enum (.fld (.var 0) zay)) (.cons (.ite (.or (.not (.prim (.isinst [.str]) (.e (.var 1) .nil))) (.or (.prim .notin (.e (.var 1) (.e (.fld (.var 0) zc7) .nil))) (.prim .isin (.e (.var 1) (.e (.prim (.slice false true) (.e (.fld (.var 0) zay) (.e (.var 2) .nil))) .nil))))) (.cons .never .nil) .nil) .nil)) (.cons (.for (.var 1) (.e (.fld (.var 0) zc7)) (.cons (.ite (.not (.call zb1 (.e (.prim .item (.e (.fld (.var 0) zc7) (.e (.var 1) .nil))) .nil))) (.cons .never .nil) .nil) .nil)) .nil))) }
def zfy : Def:={ params:=1,slots:=3,za1:=[],cells:=[],defaults:=[],fresh:=false,esc:=false,lent:=[],freshT:=[],body:=(.cons (.for (.var 1) (.e (.fld (.var 0) zc7)) (.cons (.ite (.not (.call zfl (.e (.var 1) .nil))) (.cons .never .nil) .nil) .nil)) (.cons (.for (.tup [(.var 2),(.var 1)]) (.enum (.fld (.var 0) zay)) (.cons (.ite (.or (.not (.prim (.isinst [.str]) (.e (.var 1) .nil))) (.or (.prim .notin (.e (.var 1) (.e (.fld (.var 0) zc7) .nil))) (.prim .isin (.e (.var 1) (.e (.prim (.slice false true) (.e (.fld (.var 0) zay) (.e (.var 2) .nil))) .nil))))) (.cons .never .nil) .nil) .nil)) (.cons (.for (.var 1) (.e (.fld (.var 0) zc7)) (.cons (.ite (.not (.call zb1 (.e (.prim .item (.e (.fld (.var 0) zc7) (.e (.var 1) .nil))) .nil))) (.cons (.raise zbP (.cons (.prim .item (.e (.fld (.var 0) zc7) (.e (.var 1) .nil))) .nil)) .nil) .nil) .nil)) .nil))) }
def zoA : Def:={ params:=1,slots:=2,za1:=[],cells:=[],defaults:=[],fresh:=true,esc:=false,lent:=[],freshT:=[],body:=(.cons (.ret (.prim .sorted (.e (.comp (.prim .toStr (.e (.var 1) .nil)) [1] (.var 1) (.e (.fld (.var 0) zc7)) .nil) .nil))) .nil) }
def zoz : Def:={ params:=1,slots:=1,za1:=[],cells:=[],defaults:=[],fresh:=false,esc:=false,lent:=[],freshT:=[],body:=(.cons (.ret (.call zdo (.e (.fld (.var 0) zc7) .nil))) .nil) }
def Df_disk_of : Def:={ params:=1,slots:=2,za1:=[],cells:=[],defaults:=[],fresh:=false,esc:=false,lent:=[],freshT:=[],body:=(.cons (.ret (.prim .tuple (.e (.comp (.tup (.cons (.var 1) (.cons (.prim .item (.e (.var 0) (.e (.var 1) .nil))) .nil))) [1] (.var 1) (.e (.prim .sorted (.e (.keysS 0 1) .nil))) .nil) .nil))) .nil) }
def Dl_pick : Def:={ params:=2,slots:=2,za1:=[],cells:=[],defaults:=[],fresh:=false,esc:=false,lent:=[0],freshT:=[],body:=(.cons (.ret (.prim .item (.e (.var 1) (.e (.call zby (.p 0 (.e (.prim .len (.e (.var 1) .nil)) .nil))) .nil)))) .nil) }
def lam0 : Def:={ params:=1,slots:=2,za1:=[],cells:=[],caps:=1,body:=(.cons (.ret (.call l_play (.e (.cvar 1) (.e (.var 0) .nil)))) .nil) }
def zmp : Def:={ params:=3,slots:=3,za1:=[],cells:=[],defaults:=[],fresh:=false,esc:=false,lent:=[],freshT:=[],body:=(.cons (.setFO (.var 0) F_now (.prim .dict (.e (.var 1) .nil))) (.cons (.setF (.var 0) zcX (.var 2)) (.cons (.setFO (.var 0) ziC (.lst .nil)) (.cons (.setFO (.var 0) zd2 (.lst .nil)) (.cons (.setF (.var 0) zbc (.lit .none)) (.cons (.setF (.var 0) zel (.lit (.bool false))) .nil)))))) }
def zqf : Def:={ params:=2,slots:=2,za1:=[],cells:=[],defaults:=[],fresh:=false,esc:=false,lent:=[],freshT:=[],body:=(.cons (.expr (.meth (.var 0) zol (.e (.var 1) (.e (.lst .nil) .nil)) [1,2])) (.cons (.ret (.meth (.var 0) ziy (.e (.tup (.cons (.lit (.str "look")) (.cons (.var 1) .nil))) (.e (.prim .item (.bf (.var 0) F_now (.e (.var 1) .nil))) .nil)) [1,2])) .nil)) }
def zrK : Def:={ params:=3,slots:=3,za1:=[],cells:=[],defaults:=[],fresh:=false,esc:=false,lent:=[],freshT:=[],body:=(.cons (.expr (.meth (.var 0) zol (.e (.var 1) (.e (.lst (.cons (.var 2) .nil)) .nil)) [1,2])) (.cons (.expr (.meth (.var 0) ziy (.e (.tup (.cons (.lit (.str "put")) (.cons (.var 1) (.cons (.var 2) .nil)))) (.e (.lit .none) .nil)) [1,2])) (.cons (.setI (.fld (.var 0) F_now) (.var 1) (.var 2)) .nil))) }
def zlz : Def:={ params:=1,slots:=1,za1:=[],cells:=[],defaults:=[],fresh:=false,esc:=false,lent:=[],freshT:=[],body:=(.cons (.expr (.meth (.var 0) zbi .nil [])) (.cons (.expr (.meth (.var 0) ziy (.e (.tup (.cons (.lit (.str "barrier")) .nil)) (.e (.lit .none) .nil)) [1,2])) .nil)) }
def zoC : Def:={ params:=1,slots:=1,za1:=[],cells:=[],defaults:=[],fresh:=false,esc:=false,lent:=[],freshT:=[],body:=(.cons (.expr (.meth (.var 0) zbi .nil [])) (.cons (.expr (.meth (.var 0) ziy (.e (.tup (.cons (.lit (.str "flush")) .nil)) (.e (.lit .none) .nil)) [1,2])) .nil)) }
def zrJ : Def:={ params:=2,slots:=2,za1:=[],cells:=[],defaults:=[],fresh:=false,esc:=false,lent:=[],freshT:=[],body:=(.cons (.expr (.meth (.var 0) zbi .nil [])) (.cons (.expr (.meth (.var 0) zbt (.e (.lst (.cons (.var 1) .nil)) .nil) [1])) (.cons (.append (.fld (.var 0) zd2) (.tup (.cons (.prim .len (.bf (.var 0) ziC .nil)) (.cons (.var 1) .nil)))) .nil))) }
def zqg : Def:={ params:=2,slots:=2,za1:=[],cells:=[],defaults:=[],fresh:=false,esc:=false,lent:=[],freshT:=[],body:=(.cons (.expr (.meth (.var 0) zbi .nil [])) (.cons (.expr (.meth (.var 0) zbt (.e (.lst (.cons (.var 1) .nil)) .nil) [1])) (.cons (.setF (.var 0) zbc (.tup (.cons (.lit (.str "failed")) (.cons (.var 1) .nil)))) (.cons (.raise zcx .nil) .nil)))) }
def zhB : Def:={ params:=1,slots:=1,za1:=[],cells:=[],defaults:=[],fresh:=false,esc:=false,lent:=[],freshT:=[],body:=(.cons (.ite (.prim .notNone (.e (.fld (.var 0) zbc) .nil)) (.cons (.raise zcx .nil) .nil) .nil) .nil) }
def zg2 : Def:={ params:=2,slots:=3,za1:=[],cells:=[],defaults:=[],fresh:=false,esc:=false,lent:=[],freshT:=[],body:=(.cons (.for (.var 2) (.e (.var 1)) (.cons (.ite (.not (.call zb1 (.e (.var 2) .nil))) (.cons .never .nil) .nil) .nil)) .nil) }
def zf5 : Def:={ params:=2,slots:=3,za1:=[],cells:=[],defaults:=[],fresh:=false,esc:=false,lent:=[],freshT:=[],body:=(.cons (.for (.var 2) (.e (.var 1)) (.cons (.ite (.not (.call zb1 (.e (.var 2) .nil))) (.cons (.raise zbP (.cons (.var 2) .nil)) .nil) .nil) .nil)) .nil) }
def zoD : Def:={ params:=3,slots:=3,za1:=[],cells:=[],defaults:=[],fresh:=false,esc:=false,lent:=[],freshT:=[],body:=(.cons (.expr (.meth (.var 0) zbi .nil [])) (.cons (.ite (.or (.not (.prim (.isinst [.str]) (.e (.var 1) .nil))) (.prim .notin (.e (.var 1) (.bf (.var 0) F_now .nil)))) (.cons .never .nil) .nil) (.cons (.expr (.meth (.var 0) zbt (.e (.var 2) .nil) [1])) .nil))) }
def zly : Def:={ params:=3,slots:=3,za1:=[],cells:=[],defaults:=[],fresh:=false,esc:=false,lent:=[],freshT:=[],body:=(.cons (.expr (.meth (.var 0) zbi .nil [])) (.cons (.ite (.or (.not (.prim (.isinst [.str]) (.e (.var 1) .nil))) (.prim .notin (.e (.var 1) (.bf (.var 0) F_now .nil)))) (.cons (.raise zeV (.cons (.var 1) .nil)) .nil) .nil) (.cons (.expr (.meth (.var 0) zbt (.e (.var 2) .nil) [1])) .nil))) }
def zoB : Def:={ params:=3,slots:=3,za1:=[],cells:=[],defaults:=[],fresh:=false,esc:=false,lent:=[],freshT:=[],body:=(.cons (.ite (.prim .eq (.e (.prim .len (.bf (.var 0) ziC .nil)) (.e (.fld (.var 0) zcX) .nil))) (.cons (.setF (.var 0) zel (.lit (.bool true))) (.cons (.setF (.var 0) zbc (.tup (.cons (.lit (.str "failed")) (.cons (.lit .none) .nil)))) (.cons (.raise zcx .nil) .nil))) .nil) (.cons (.append (.fld (.var 0) ziC) (.tup (.cons (.var 1) (.cons (.var 2) .nil)))) (.cons (.ret (.var 2)) .nil))) }
def zmg : Def:={ params:=3,slots:=5,za1:=[],cells:=[],defaults:=[],fresh:=false,esc:=false,lent:=[],freshT:=[],body:=(.cons (.asg (.var 3) (.new zqj (.e (.var 1) (.e (.var 2) .nil)) [1,2])) (.cons (.asg (.var 4) (.lit .none)) (.cons (.try (.cons (.asg (.var 4) (.callv (.var 0) (.e (.var 3) .nil))) .nil) (.cons zcx Option.none (.cons (.asg (.var 4) (.lit .none)) .nil) .nil)) (.cons (.ite (.fld (.var 3) zel) (.cons .never .nil) .nil) (.cons (.ite (.prim .isNone (.e (.fld (.var 3) zbc) .nil)) (.cons (.ite (.not (.call zb1 (.e (.var 4) .nil))) (.cons .never .nil) .nil) (.cons (.setF (.var 3) zbc (.tup (.cons (.lit (.str "told")) (.cons (.var 4) .nil)))) .nil)) .nil) (.cons (.ret (.var 3)) .nil)))))) }
def zjs : Def:={ params:=3,slots:=5,za1:=[],cells:=[],defaults:=[],fresh:=false,esc:=false,lent:=[],freshT:=[],body:=(.cons (.asg (.var 3) (.new zqj (.e (.var 1) (.e (.var 2) .nil)) [1,2])) (.cons (.asg (.var 4) (.lit .none)) (.cons (.try (.cons (.asg (.var 4) (.callv (.var 0) (.e (.var 3) .nil))) .nil) (.cons zcx Option.none (.cons (.asg (.var 4) (.lit .none)) .nil) .nil)) (.cons (.ite (.fld (.var 3) zel) (.cons (.raise zdN .nil) .nil) .nil) (.cons (.ite (.prim .isNone (.e (.fld (.var 3) zbc) .nil)) (.cons (.ite (.not (.call zb1 (.e (.var 4) .nil))) (.cons .never .nil) .nil) (.cons (.setF (.var 3) zbc (.tup (.cons (.lit (.str "told")) (.cons (.var 4) .nil)))) .nil)) .nil) (.cons (.ret (.var 3)) .nil)))))) }
def zjr : Def:={ params:=3,slots:=5,za1:=[],cells:=[],defaults:=[],fresh:=false,esc:=false,lent:=[],freshT:=[],body:=(.cons (.asg (.var 3) (.new zqj (.e (.var 1) (.e (.var 2) .nil)) [1,2])) (.cons (.asg (.var 4) (.lit .none)) (.cons (.try (.cons (.asg (.var 4) (.callv (.var 0) (.e (.var 3) .nil))) .nil) (.cons zcx Option.none (.cons (.asg (.var 4) (.lit .none)) .nil) .nil)) (.cons (.ite (.fld (.var 3) zel) (.cons .never .nil) .nil) (.cons (.ite (.prim .isNone (.e (.fld (.var 3) zbc) .nil)) (.cons (.ite (.not (.call zb1 (.e (.var 4) .nil))) (.cons (.raise zbP (.cons (.var 4) .nil)) .nil) .nil) (.cons (.setF (.var 3) zbc (.tup (.cons (.lit (.str "told")) (.cons (.var 4) .nil)))) .nil)) .nil) (.cons (.ret (.var 3)) .nil)))))) }
def zoy : Def:={ params:=6,slots:=7,za1:=[],cells:=[],defaults:=[],fresh:=false,esc:=false,lent:=[],freshT:=[],body:=(.cons (.asg (.var 6) (.call zbL (.e (.var 2) (.e (.prim .dict (.e (.var 3) .nil)) (.e (.fld (.var 1) zcX) .nil))))) (.cons (.setF (.var 0) zbj (.meth (.var 1) zoi .nil [])) (.cons (.setF (.var 0) zay (.fld (.var 1) zay)) (.cons (.setF (.var 0) zdL (.prim .dict (.e (.var 3) .nil))) (.cons (.setF (.var 0) zga (.fldm (.var 6) ziC)) (.cons (.setF (.var 0) zd2 (.fldm (.var 6) zd2)) (.cons (.setF (.var 0) zbc (.fld (.var 6) zbc)) (.cons (.setF (.var 0) zan (.var 4)) (.cons (.setF (.var 0) zcN (.var 5)) .nil))))))))) }
def Df_Run_of : Def:={ params:=1,slots:=1,za1:=[],cells:=[],defaults:=[],fresh:=false,esc:=false,lent:=[],freshT:=[],body:=(.cons (.ret (.new C_Run (.e (.var 0) (.e (.fld (.var 0) zq5) (.e (.meth (.var 0) zgx .nil []) (.e (.fld (.var 0) zan) (.e (.fld (.var 0) zcN) .nil))))) [1,2,3,4,5])) .nil) }
def zmi : Def:={ params:=2,slots:=2,za1:=[],cells:=[],defaults:=[],fresh:=false,esc:=false,lent:=[],freshT:=[],body:=(.cons (.ret (.new C_Run (.e (.var 0) (.e (.fld (.var 0) zq6) (.e (.var 1) (.e (.lst .nil) (.e (.lst .nil) .nil))))) [1,2,3,4,5])) .nil) }
def zqc : Def:={ params:=1,slots:=1,za1:=[],cells:=[],defaults:=[],fresh:=true,esc:=false,lent:=[],freshT:=[],body:=(.cons (.ret (.prim .list (.e (.fld (.var 0) zga) .nil))) .nil) }
def Df_Run_end : Def:={ params:=1,slots:=1,za1:=[],cells:=[],defaults:=[],fresh:=false,esc:=false,lent:=[],freshT:=[],body:=(.cons (.ret (.fld (.var 0) zbc)) .nil) }
def zrI : Def:={ params:=1,slots:=3,za1:=[],cells:=[],defaults:=[],fresh:=false,esc:=false,lent:=[],freshT:=[],body:=(.cons (.ret (.prim .tuple (.e (.comp (.var 2) [1,2] (.tup [(.var 1),(.var 2)]) (.e (.fldm (.var 0) zd2)) .nil) .nil))) .nil) }
def Dl_told : Def:={ params:=2,slots:=3,za1:=[],cells:=[],defaults:=[],fresh:=false,esc:=false,lent:=[1],freshT:=[],body:=(.cons (.ite (.prim .eq (.e (.prim .item (.e (.var 0) (.e (.lit (.int 0)) .nil))) (.e (.lit (.str "value")) .nil))) (.cons (.ret (.prim .item (.e (.var 0) (.e (.lit (.int 1)) .nil)))) .nil) .nil) (.cons (.asg (.var 2) (.dget (.b 1 .nil) (.prim .item (.e (.var 0) (.e (.lit (.int 1)) .nil))) (.lit (.int 0)))) (.cons (.ite (.and (.prim .eq (.e (.prim .item (.e (.var 0) (.e (.lit (.int 0)) .nil))) (.e (.lit (.str "plus")) .nil))) (.and (.prim (.isinst [.int]) (.e (.var 2) .nil)) (.not (.prim (.isinst [.bool]) (.e (.var 2) .nil))))) (.cons (.ret (.prim .add (.e (.var 2) (.e (.prim .item (.e (.var 0) (.e (.lit (.int 2)) .nil))) .nil)))) .nil) .nil) (.cons (.ret (.var 2)) .nil)))) }
def Dl_wish : Def:={ params:=2,slots:=3,za1:=[],cells:=[],defaults:=[],fresh:=false,esc:=false,lent:=[1],freshT:=[],body:=(.cons (.ite (.prim .isin (.e (.prim .item (.e (.var 0) (.e (.lit (.int 0)) .nil))) (.e (.tup (.cons (.lit (.str "barrier")) (.cons (.lit (.str "flush")) .nil))) .nil))) (.cons (.ret (.tup (.cons (.prim .item (.e (.var 0) (.e (.lit (.int 0)) .nil))) .nil))) .nil) .nil) (.cons (.ret (.prim .add (.e (.tup (.cons (.prim .item (.e (.var 0) (.e (.lit (.int 0)) .nil))) (.cons (.prim .item (.e (.var 0) (.e (.lit (.int 1)) .nil))) .nil))) (.e (.prim .tuple (.e (.comp (.call zhg (.e (.var 2) (.p 1 .nil))) [2] (.var 2) (.e (.prim .item (.e (.var 0) (.e (.lit (.int 2)) .nil)))) .nil) .nil)) .nil)))) .nil)) }
def Dl_ask : Def:={ params:=2,slots:=2,za1:=[],cells:=[],defaults:=[],fresh:=false,esc:=false,lent:=[],freshT:=[],body:=(.cons (.ite (.prim .eq (.e (.prim .item (.e (.var 1) (.e (.lit (.int 0)) .nil))) (.e (.lit (.str "look")) .nil))) (.cons (.ret (.meth (.var 0) M_look (.e (.prim .item (.e (.var 1) (.e (.lit (.int 1)) .nil))) .nil) [1])) .nil) .nil) (.cons (.ite (.prim .eq (.e (.prim .item (.e (.var 1) (.e (.lit (.int 0)) .nil))) (.e (.lit (.str "put")) .nil))) (.cons (.ret (.meth (.var 0) M_put (.e (.prim .item (.e (.var 1) (.e (.lit (.int 1)) .nil))) (.e (.prim .item (.e (.var 1) (.e (.lit (.int 2)) .nil))) .nil)) [1,2])) .nil) .nil) (.cons (.ret (.ifx (.prim .eq (.e (.prim .item (.e (.var 1) (.e (.lit (.int 0)) .nil))) (.e (.lit (.str "barrier")) .nil))) (.meth (.var 0) zln .nil []) (.meth (.var 0) zru .nil []))) .nil))) }
def Dl_play : Def:={ params:=2,slots:=5,za1:=[],cells:=[],defaults:=[],fresh:=false,esc:=false,lent:=[],freshT:=[],body:=(.cons (.par [2,3] (.e (.lit (.int 0)) (.f (.dct .nil .nil) .nil))) (.cons (.while (.prim .lt (.e (.var 2) (.e (.prim .len (.e (.var 0) .nil)) .nil))) (.cons (.asg (.var 4) (.prim .item (.e (.var 0) (.e (.var 2) .nil)))) (.cons (.asg (.var 2) (.prim .add (.e (.var 2) (.e (.lit (.int 1)) .nil)))) (.cons (.ite (.prim .eq (.e (.prim .item (.e (.var 4) (.e (.lit (.int 0)) .nil))) (.e (.lit (.str "say")) .nil))) (.cons (.expr (.meth (.var 1) M_say (.e (.call zhg (.e (.prim .item (.e (.var 4) (.e (.lit (.int 1)) .nil))) (.p 3 .nil))) .nil) [1])) .nil) (.cons (.ite (.prim .eq (.e (.prim .item (.e (.var 4) (.e (.lit (.int 0)) .nil))) (.e (.lit (.str "fail")) .nil))) (.cons (.expr (.meth (.var 1) M_fail (.e (.call zhg (.e (.prim .item (.e (.var 4) (.e (.lit (.int 1)) .nil))) (.p 3 .nil))) .nil) [1])) .nil) (.cons (.ite (.prim .eq (.e (.prim .item (.e (.var 4) (.e (.lit (.int 0)) .nil))) (.e (.lit (.str "back")) .nil))) (.cons (.ret (.call zhg (.e (.prim .item (.e (.var 4) (.e (.lit (.int 1)) .nil))) (.p 3 .nil)))) .nil) (.cons (.ite (.prim .eq (.e (.prim .item (.e (.var 4) (.e (.lit (.int 0)) .nil))) (.e (.lit (.str "skip")) .nil))) (.cons (.asg (.var 2) (.ifx (.call zbQ (.e (.dget (.b 3 .nil) (.prim .item (.e (.var 4) (.e (.lit (.int 1)) .nil))) (.lit (.int 0))) (.e (.prim .item (.e (.var 4) (.e (.lit (.int 2)) .nil))) .nil))) (.prim .add (.e (.var 2) (.e (.prim .item (.e (.var 4) (.e (.lit (.int 3)) .nil))) .nil))) (.var 2))) .nil) (.cons (.setI (.slot 3) (.prim .item (.e (.var 4) (.e (.lit (.int 3)) .nil))) (.call l_ask (.e (.var 1) (.e (.call zpv (.e (.var 4) (.p 3 .nil))) .nil)))) .nil)) .nil)) .nil)) .nil)) .nil)))) (.cons (.ret (.lit .none)) .nil))) }
def Dl_worked : Def:={ params:=1,slots:=1,za1:=[0],cells:=[],defaults:=[],fresh:=false,esc:=true,lent:=[],freshT:=[],body:=(.cons (.ret (.lam 0 [0])) .nil) }
def Dl_run : Def:={ params:=2,slots:=10,za1:=[],cells:=[],defaults:=[],fresh:=false,esc:=false,lent:=[],freshT:=[],body:=(.cons (.par [2,3,4,5,6] (.e (.lit (.int 0)) (.f (.dct .nil .nil) (.f (.prim .dict (.e (.var 1) .nil)) (.f (.lst .nil) (.f (.lst .nil) .nil)))))) (.cons (.while (.prim .lt (.e (.var 2) (.e (.prim .len (.e (.var 0) .nil)) .nil))) (.cons (.asg (.var 7) (.prim .item (.e (.var 0) (.e (.var 2) .nil)))) (.cons (.asg (.var 2) (.prim .add (.e (.var 2) (.e (.lit (.int 1)) .nil)))) (.cons (.ite (.prim .eq (.e (.prim .item (.e (.var 7) (.e (.lit (.int 0)) .nil))) (.e (.lit (.str "say")) .nil))) (.cons (.append (.slot 6) (.tup (.cons (.prim .len (.b 5 .nil)) (.cons (.call zhg (.e (.prim .item (.e (.var 7) (.e (.lit (.int 1)) .nil))) (.p 3 .nil))) .nil)))) .nil) (.cons (.ite (.or (.prim .eq (.e (.prim .item (.e (.var 7) (.e (.lit (.int 0)) .nil))) (.e (.lit (.str "fail")) .nil))) (.prim .eq (.e (.prim .item (.e (.var 7) (.e (.lit (.int 0)) .nil))) (.e (.lit (.str "back")) .nil)))) (.cons (.ret (.tup (.cons (.mvar 5) (.cons (.mvar 6) (.cons (.tup (.cons (.ifx (.prim .eq (.e (.prim .item (.e (.var 7) (.e (.lit (.int 0)) .nil))) (.e (.lit (.str "fail")) .nil))) (.lit (.str "failed")) (.lit (.str "told"))) (.cons (.call zhg (.e (.prim .item (.e (.var 7) (.e (.lit (.int 1)) .nil))) (.p 3 .nil))) .nil))) .nil))))) .nil) (.cons (.ite (.prim .eq (.e (.prim .item (.e (.var 7) (.e (.lit (.int 0)) .nil))) (.e (.lit (.str "skip")) .nil))) (.cons (.asg (.var 2) (.ifx (.call zbQ (.e (.dget (.b 3 .nil) (.prim .item (.e (.var 7) (.e (.lit (.int 1)) .nil))) (.lit (.int 0))) (.e (.prim .item (.e (.var 7) (.e (.lit (.int 2)) .nil))) .nil))) (.prim .add (.e (.var 2) (.e (.prim .item (.e (.var 7) (.e (.lit (.int 3)) .nil))) .nil))) (.var 2))) .nil) (.cons (.asg (.var 8) (.call zpv (.e (.var 7) (.p 3 .nil)))) (.cons (.asg (.var 9) (.ifx (.prim .eq (.e (.prim .item (.e (.var 8) (.e (.lit (.int 0)) .nil))) (.e (.lit (.str "look")) .nil))) (.prim .item (.b 4 (.e (.prim .item (.e (.var 8) (.e (.lit (.int 1)) .nil))) .nil))) (.lit .none))) (.cons (.ite (.prim .eq (.e (.prim .item (.e (.var 8) (.e (.lit (.int 0)) .nil))) (.e (.lit (.str "put")) .nil))) (.cons (.setI (.slot 4) (.prim .item (.e (.var 8) (.e (.lit (.int 1)) .nil))) (.prim .item (.e (.var 8) (.e (.lit (.int 2)) .nil)))) .nil) .nil) (.cons (.append (.slot 5) (.tup (.cons (.var 8) (.cons (.var 9) .nil)))) (.cons (.setI (.slot 3) (.prim .item (.e (.var 7) (.e (.lit (.int 3)) .nil))) (.var 9)) .nil)))))) .nil)) .nil)) .nil)))) (.cons (.ret (.tup (.cons (.mvar 5) (.cons (.mvar 6) (.cons (.tup (.cons (.lit (.str "told")) (.cons (.lit .none) .nil))) .nil))))) .nil))) }
def Dl_plan : Def:={ params:=1,slots:=1,za1:=[],cells:=[],defaults:=[],fresh:=false,esc:=false,lent:=[],freshT:=[],body:=(.cons (.ret (.new zqi (.e (.call zeC (.e (.prim .item (.e (.var 0) (.e (.lit (.int 0)) .nil))) .nil)) (.e (.call zeC (.e (.prim .item (.e (.var 0) (.e (.lit (.int 1)) .nil))) .nil)) (.e (.prim .item (.e (.var 0) (.e (.lit (.int 2)) .nil))) (.e (.prim .item (.e (.var 0) (.e (.lit (.int 3)) .nil))) (.e (.lit (.int 2000)) .nil))))) [1,2,3,4,6])) .nil) }
def Dl_value : Def:={ params:=1,slots:=1,za1:=[],cells:=[],defaults:=[],fresh:=false,esc:=false,lent:=[0],freshT:=[],body:=(.cons (.ret (.call zmU (.p 0 (.e (.lst (.cons (.lit (.int 0)) (.cons (.lit (.int 1)) (.cons (.lit (.bool true)) (.cons (.lit (.bool false)) (.cons (.lit .none) (.cons (.lit (.str "a")) (.cons (.tup (.cons (.lit (.int 1)) (.cons (.lit (.int 0)) .nil))) (.cons (.tup (.cons (.lit (.int 0)) (.cons (.lit (.int 1)) .nil))) (.cons (.tup (.cons (.lit (.bool true)) (.cons (.lit (.int 0)) .nil))) (.cons (.tup (.cons (.lit (.int 1)) (.cons (.lit (.int 2)) (.cons (.lit (.int 3)) .nil)))) (.cons (.prim .pow (.e (.lit (.int 10)) (.e (.lit (.int 9)) .nil))) (.cons (.lit (.int 2)) .nil))))))))))))) .nil)))) .nil) }
def Dl_part : Def:={ params:=1,slots:=3,za1:=[],cells:=[],defaults:=[],fresh:=false,esc:=false,lent:=[0],freshT:=[],body:=(.cons (.par [1,2] (.e (.call zby (.p 0 (.e (.lit (.int 4)) .nil))) (.e (.call zib (.p 0 .nil)) .nil))) (.cons (.ret (.prim .item (.e (.lst (.cons (.tup (.cons (.lit (.str "value")) (.cons (.var 2) .nil))) (.cons (.tup (.cons (.lit (.str "value")) (.cons (.var 2) .nil))) (.cons (.tup (.cons (.lit (.str "note")) (.cons (.call zby (.p 0 (.e (.lit (.int 2)) .nil))) .nil))) (.cons (.tup (.cons (.lit (.str "plus")) (.cons (.lit (.int 0)) (.cons (.lit (.int 1)) .nil)))) .nil))))) (.e (.var 1) .nil)))) .nil)) }
def Dl_rows : Def:={ params:=3,slots:=8,za1:=[],cells:=[],defaults:=[],fresh:=false,esc:=false,lent:=[0],freshT:=[],body:=(.cons (.setO 3 (.lst .nil)) (.cons (.for (.var 4) (.range (.cons (.var 2) .nil)) (.cons (.ite (.prim .eq (.e (.call zby (.p 0 (.e (.lit (.int 6)) .nil))) (.e (.lit (.int 0)) .nil))) (.cons (.append (.slot 3) (.tup (.cons (.lit (.str "skip")) (.cons (.call zby (.p 0 (.e (.lit (.int 2)) .nil))) (.cons (.call zib (.p 0 .nil)) (.cons (.prim .add (.e (.lit (.int 1)) (.e (.call zby (.p 0 (.e (.lit (.int 2)) .nil))) .nil))) .nil)))))) .nil) .nil) (.cons (.ite (.prim .eq (.e (.call zby (.p 0 (.e (.lit (.int 5)) .nil))) (.e (.lit (.int 0)) .nil))) (.cons (.append (.slot 3) (.tup (.cons (.lit (.str "say")) (.cons (.call zkR (.p 0 .nil)) .nil)))) .nil) .nil) (.cons (.asg (.var 5) (.call zby (.p 0 (.e (.lit (.int 8)) .nil)))) (.cons (.asg (.var 6) (.call zmU (.p 0 (.e (.var 1) .nil)))) (.cons (.ite (.prim .lt (.e (.var 5) (.e (.lit (.int 4)) .nil))) (.cons (.append (.slot 3) (.tup (.cons (.lit (.str "put")) (.cons (.var 6) (.cons (.tup (.cons (.call zkR (.p 0 .nil)) .nil)) (.cons (.lit (.int 9)) .nil)))))) .nil) (.cons (.ite (.prim .lt (.e (.var 5) (.e (.lit (.int 6)) .nil))) (.cons (.append (.slot 3) (.tup (.cons (.lit (.str "look")) (.cons (.var 6) (.cons (.tup .nil) (.cons (.call zby (.p 0 (.e (.lit (.int 2)) .nil))) .nil)))))) .nil) (.cons (.append (.slot 3) (.tup (.cons (.prim .item (.e (.lst (.cons (.lit (.str "barrier")) (.cons (.lit (.str "flush")) .nil))) (.e (.prim .sub (.e (.var 5) (.e (.lit (.int 6)) .nil))) .nil))) (.cons (.lit .none) (.cons (.tup .nil) (.cons (.lit (.int 9)) .nil)))))) .nil)) .nil)) .nil)))))) (.cons (.asg (.var 7) (.call zby (.p 0 (.e (.lit (.int 6)) .nil)))) (.cons (.ret (.ifx (.prim .lt (.e (.var 7) (.e (.lit (.int 2)) .nil))) (.prim .add (.b 3 (.e (.lst (.cons (.prim .item (.e (.lst (.cons (.tup (.cons (.lit (.str "fail")) (.cons (.call zkR (.p 0 .nil)) .nil))) (.cons (.tup (.cons (.lit (.str "back")) (.cons (.call zkR (.p 0 .nil)) .nil))) .nil))) (.e (.var 7) .nil))) .nil)) .nil))) (.mvar 3))) .nil)))) }
def zgB : Def:={ params:=2,slots:=2,za1:=[],cells:=[],defaults:=[],fresh:=false,esc:=false,lent:=[],freshT:=[],body:=(.cons (.ite (.or (.not (.call zaJ (.e (.var 1) .nil))) (.not (.chain .le .le (.lit (.int 0)) (.var 1) (.prim .len (.e (.fld (.var 0) zga) .nil))))) (.cons .never .nil) .nil) .nil) }
def zmk : Def:={ params:=2,slots:=10,za1:=[],cells:=[],defaults:=[],fresh:=false,esc:=false,lent:=[],freshT:=[],body:=(.cons (.par [2,3] (.e (.box (.prim .dict (.e (.fld (.var 0) zdL) .nil))) (.e (.box (.lst (.cons (.box (.lst .nil)) .nil))) .nil))) (.cons (.for (.tup [(.var 4),(.tup [(.var 5),(.var 6)])]) (.enum (.prim (.slice false true) (.e (.fld (.var 0) zga) (.e (.var 1) .nil)))) (.cons (.ite (.prim .eq (.e (.prim .item (.e (.var 5) (.e (.lit (.int 0)) .nil))) (.e (.lit (.str "put")) .nil))) (.cons (.append (.val (.prim .item (.e (.var 3) (.e (.prim .neg (.e (.lit (.int 1)) .nil)) .nil)))) (.tup (.cons (.prim .item (.e (.var 5) (.e (.lit (.int 1)) .nil))) (.cons (.prim .item (.e (.var 5) (.e (.lit (.int 2)) .nil))) .nil)))) .nil) .nil) (.cons (.asg (.var 7) (.or (.and (.prim .eq (.e (.prim .item (.e (.var 5) (.e (.lit (.int 0)) .nil))) (.e (.lit (.str "flush")) .nil))) (.prim .notin (.e (.var 4) (.e (.fld (.var 0) zan) .nil)))) (.prim .isin (.e (.var 4) (.e (.fld (.var 0) zcN) .nil))))) (.cons (.ite (.and (.prim .eq (.e (.prim .item (.e (.var 5) (.e (.lit (.int 0)) .nil))) (.e (.lit (.str "barrier")) .nil))) (.prim .notin (.e (.var 4) (.e (.fld (.var 0) zan) .nil)))) (.cons (.append (.val (.var 3)) (.box (.lst .nil))) .nil) .nil) (.cons (.ite (.var 7) (.cons (.update (.val (.var 2)) (.prim .dict (.e (.comp2h (.var 9) [8,9] (.var 8) (.var 3) [9] (.var 9) (.var 8) .nil) .nil))) (.cons (.asg (.var 3) (.box (.lst (.cons (.box (.lst .nil)) .nil)))) .nil)) .nil) .nil))))) (.cons (.ret (.tup (.cons (.var 2) (.cons (.var 3) .nil)))) .nil))) }
def zlx : Def:={ params:=2,slots:=6,za1:=[],cells:=[],defaults:=[],fresh:=false,esc:=false,lent:=[],freshT:=[],body:=(.cons (.expr (.meth (.var 0) zb7 (.e (.var 1) .nil) [1])) (.cons (.asg (.tup [(.var 2),(.var 3)]) (.meth (.var 0) zdx (.e (.var 1) .nil) [1])) (.cons (.update (.val (.var 2)) (.prim .dict (.e (.comp2h (.var 5) [4,5] (.var 4) (.var 3) [5] (.var 5) (.var 4) .nil) .nil))) (.cons (.ret (.call zdo (.e (.var 2) .nil))) .nil)))) }
def zrD : Def:={ params:=1,slots:=5,za1:=[],cells:=[],defaults:=[],fresh:=false,esc:=false,lent:=[],freshT:=[],body:=(.cons (.asg (.var 1) (.lst (.cons (.tup .nil) .nil))) (.cons (.for (.var 2) (.e (.var 0)) (.cons (.asg (.var 1) (.comp2h (.prim .add (.e (.var 3) (.e (.tup (.cons (.var 4) .nil)) .nil))) [3,4] (.var 3) (.var 1) [4] (.var 4) (.var 2) .nil)) .nil)) (.cons (.ret (.var 1)) .nil))) }
def ziF : Def:={ params:=2,slots:=2,za1:=[],cells:=[],defaults:=[],fresh:=false,esc:=false,lent:=[],freshT:=[],body:=(.cons (.expr (.meth (.var 0) zb7 (.e (.var 1) .nil) [1])) (.cons (.ret (.call zdo (.e (.prim .item (.e (.meth (.var 0) zdx (.e (.var 1) .nil) [1]) (.e (.lit (.int 0)) .nil))) .nil))) .nil)) }
def zmh : Def:={ params:=2,slots:=4,za1:=[],cells:=[],defaults:=[],fresh:=false,esc:=false,lent:=[],freshT:=[],body:=(.cons (.expr (.meth (.var 0) zb7 (.e (.var 1) .nil) [1])) (.cons (.ret (.prim .tuple (.e (.comp (.var 3) [2,3] (.tup [(.var 2),(.var 3)]) (.e (.fldm (.var 0) zd2)) (.cons (.prim .le (.e (.var 2) (.e (.var 1) .nil))) .nil)) .nil))) .nil)) }
def zjt : Def:={ params:=2,slots:=2,za1:=[],cells:=[],defaults:=[],fresh:=false,esc:=false,lent:=[],freshT:=[],body:=(.cons (.expr (.meth (.var 0) zb7 (.e (.var 1) .nil) [1])) (.cons (.ret (.prim .item (.e (.meth (.var 0) zdx (.e (.var 1) .nil) [1]) (.e (.lit (.int 1)) .nil)))) .nil)) }
def zml : Def:={ params:=2,slots:=15,za1:=[],cells:=[],defaults:=[],fresh:=true,esc:=false,lent:=[],freshT:=[],body:=(.cons (.expr (.meth (.var 0) zb7 (.e (.var 1) .nil) [1])) (.cons (.asg (.tup [(.var 2),(.var 3)]) (.meth (.var 0) zdx (.e (.var 1) .nil) [1])) (.cons (.par [4,5] (.f (.dct .nil .nil) (.e (.comph (.lit (.int 0)) [6] (.var 6) (.fld (.var 0) zbj) .nil) .nil))) (.cons (.forh (.var 7) (.var 3) (.cons (.asg (.var 8) (.comph (.prim .len (.e (.comph (.var 9) [9,10] (.tup [(.var 9),(.var 10)]) (.var 7) (.cons (.prim .eq (.e (.var 9) (.e (.var 6) .nil))) .nil)) .nil)) [6] (.var 6) (.fld (.var 0) zbj) .nil)) (.cons (.setO 11 (.lst .nil)) (.cons (.for (.tup [(.var 6),(.var 12),(.var 13)]) (.zipM (.cons (.fld (.var 0) zbj) (.cons (.var 5) (.cons (.var 8) .nil)))) (.cons (.append (.slot 11) (.meth (.var 0) zfp (.e (.var 6) (.e (.meth (.var 0) zjJ (.e (.var 2) (.e (.var 3) (.e (.var 6) .nil))) [1,2,3]) (.e (.var 12) (.e (.prim .add (.e (.var 12) (.e (.var 13) .nil))) .nil)))) [1,2,3,4])) .nil)) (.cons (.update (.slot 4) (.prim .dict (.e (.comp (.tup (.cons (.var 14) (.cons (.lit (.bool true)) .nil))) [14] (.var 14) (.e (.call zfH (.e (.mvar 11) .nil))) .nil) .nil))) (.cons (.asg (.var 5) (.comp (.prim .add (.e (.var 12) (.e (.var 13) .nil))) [12,13] (.tup [(.var 12),(.var 13)]) (.zipM (.cons (.var 5) (.cons (.var 8) .nil))) .nil)) .nil)))))) (.cons (.ret (.prim .sorted (.e (.prim .list (.b 4 .nil)) .nil))) .nil))))) }
def ziE : Def:={ params:=5,slots:=10,za1:=[],cells:=[],defaults:=[],fresh:=true,esc:=false,lent:=[],freshT:=[],body:=(.cons (.setO 5 (.lst (.cons (.tup (.cons (.var 4) (.cons (.lit (.int 0)) .nil))) .nil))) (.cons (.for (.var 6) (.range (.cons (.var 3) (.cons (.var 4) .nil))) (.cons (.append (.slot 5) (.tup (.cons (.var 6) (.cons (.lit (.int 0)) .nil)))) (.cons (.par [7,8] (.e (.prim .item (.e (.var 2) (.e (.var 6) .nil))) (.e (.prim .item (.e (.var 2) (.e (.prim .add (.e (.var 6) (.e (.lit (.int 1)) .nil))) .nil))) .nil))) (.cons (.ite (.and (.prim .isin (.e (.var 1) (.e (.fld (.var 0) zay) .nil))) (.and (.prim (.isinst [.tup]) (.e (.var 7) .nil)) (.prim (.isinst [.tup]) (.e (.var 8) .nil)))) (.cons (.ite (.prim .eq (.e (.prim .len (.e (.var 7) .nil)) (.e (.prim .len (.e (.var 8) .nil)) .nil))) (.cons (.extend (.slot 5) (.comp (.tup (.cons (.var 6) (.cons (.var 9) .nil))) [9] (.var 9) (.range (.cons (.lit (.int 1)) (.cons (.prim .len (.e (.var 8) .nil)) .nil))) .nil)) .nil) .nil) .nil) .nil) .nil)))) (.cons (.retO 5) .nil))) }
def zox : Def:={ params:=4,slots:=7,za1:=[],cells:=[],defaults:=[],fresh:=true,esc:=false,lent:=[],freshT:=[],body:=(.cons (.ret (.prim .add (.e (.lst (.cons (.prim .item (.e (.var 1) (.e (.var 3) .nil))) .nil)) (.e (.comp2h (.var 6) [4,5,6] (.var 4) (.var 2) [5,6] (.tup [(.var 5),(.var 6)]) (.var 4) (.cons (.prim .eq (.e (.var 5) (.e (.var 3) .nil))) .nil)) .nil)))) .nil) }
def Dl_late : Def:={ params:=4,slots:=12,za1:=[],cells:=[],defaults:=[],fresh:=false,esc:=false,lent:=[],freshT:=[],body:=(.cons (.par [4,5] (.e (.box (.prim .dict (.e (.var 1) .nil))) (.e (.box (.lst (.cons (.box (.lst .nil)) .nil))) .nil))) (.cons (.for (.tup [(.var 6),(.tup [(.var 7),(.var 8)])]) (.enum (.prim (.slice false true) (.e (.prim .item (.e (.var 0) (.e (.lit (.int 0)) .nil))) (.e (.var 2) .nil)))) (.cons (.ite (.prim .eq (.e (.prim .item (.e (.var 7) (.e (.lit (.int 0)) .nil))) (.e (.lit (.str "put")) .nil))) (.cons (.append (.val (.prim .item (.e (.var 5) (.e (.prim .neg (.e (.lit (.int 1)) .nil)) .nil)))) (.tup (.cons (.prim .item (.e (.var 7) (.e (.lit (.int 1)) .nil))) (.cons (.prim .item (.e (.var 7) (.e (.lit (.int 2)) .nil))) .nil)))) .nil) .nil) (.cons (.ite (.and (.prim .eq (.e (.prim .item (.e (.var 7) (.e (.lit (.int 0)) .nil))) (.e (.lit (.str "barrier")) .nil))) (.prim .notin (.e (.var 6) (.e (.prim .item (.e (.var 3) (.e (.lit (.int 0)) .nil))) .nil)))) (.cons (.append (.val (.var 5)) (.box (.lst .nil))) .nil) .nil) (.cons (.ite (.or (.and (.prim .eq (.e (.prim .item (.e (.var 7) (.e (.lit (.int 0)) .nil))) (.e (.lit (.str "flush")) .nil))) (.prim .notin (.e (.var 6) (.e (.prim .item (.e (.var 3) (.e (.lit (.int 0)) .nil))) .nil)))) (.prim .isin (.e (.var 6) (.e (.prim .item (.e (.var 3) (.e (.lit (.int 1)) .nil))) .nil)))) (.cons (.forh (.var 9) (.var 5) (.cons (.forh (.tup [(.var 10),(.var 11)]) (.var 9) (.cons (.setI (.val (.var 4)) (.var 10) (.var 11)) .nil)) .nil)) (.cons (.asg (.var 5) (.box (.lst (.cons (.box (.lst .nil)) .nil)))) .nil)) .nil) .nil)))) (.cons (.ret (.tup (.cons (.var 4) (.cons (.var 5) .nil)))) .nil))) }
def Dl_words : Def:={ params:=2,slots:=4,za1:=[],cells:=[],defaults:=[],fresh:=false,esc:=false,lent:=[],freshT:=[],body:=(.cons (.ret (.prim .tuple (.e (.comp (.var 3) [2,3] (.tup [(.var 2),(.var 3)]) (.e (.prim .item (.e (.var 0) (.e (.lit (.int 1)) .nil)))) (.cons (.prim .le (.e (.var 2) (.e (.var 1) .nil))) .nil)) .nil))) .nil) }
def Dl_pages : Def:={ params:=3,slots:=7,za1:=[],cells:=[],defaults:=[],fresh:=false,esc:=false,lent:=[],freshT:=[],body:=(.cons (.setO 3 (.prim .dict (.e (.var 1) .nil))) (.cons (.for (.tup [(.var 4),(.var 5)]) (.e (.prim (.slice false true) (.e (.prim .item (.e (.var 0) (.e (.lit (.int 0)) .nil))) (.e (.var 2) .nil)))) (.cons (.ite (.prim .eq (.e (.prim .item (.e (.var 4) (.e (.lit (.int 0)) .nil))) (.e (.lit (.str "put")) .nil))) (.cons (.setI (.slot 3) (.prim .item (.e (.var 4) (.e (.lit (.int 1)) .nil))) (.prim .item (.e (.var 4) (.e (.lit (.int 2)) .nil)))) .nil) .nil) .nil)) (.cons (.ret (.prim .tuple (.e (.comp (.tup (.cons (.var 6) (.cons (.prim .item (.b 3 (.e (.var 6) .nil))) .nil))) [6] (.var 6) (.e (.prim .sorted (.b 3 .nil))) .nil) .nil))) .nil))) }
def Dl_worths : Def:={ params:=2,slots:=6,za1:=[],cells:=[],defaults:=[],fresh:=true,esc:=false,lent:=[],freshT:=[],body:=(.cons (.setO 2 (.lst (.cons (.prim .item (.e (.prim .item (.e (.var 0) (.e (.lit (.int 0)) .nil))) (.e (.var 1) .nil))) .nil))) (.cons (.forh (.var 3) (.prim .item (.e (.var 0) (.e (.lit (.int 1)) .nil))) (.cons (.extend (.slot 2) (.comph (.var 5) [4,5] (.tup [(.var 4),(.var 5)]) (.var 3) (.cons (.prim .eq (.e (.var 4) (.e (.var 1) .nil))) .nil))) .nil)) (.cons (.retO 2) .nil))) }
def Dl_fits : Def:={ params:=3,slots:=14,za1:=[],cells:=[],defaults:=[],fresh:=false,esc:=false,lent:=[],freshT:=[],body:=(.cons (.asg (.var 3) (.comph (.lit (.int 0)) [4] (.var 4) (.var 1) .nil)) (.cons (.forh (.var 5) (.prim .item (.e (.var 0) (.e (.lit (.int 1)) .nil))) (.cons (.setO 6 (.lst .nil)) (.cons (.for (.tup [(.var 7),(.var 4)]) (.zipM (.cons (.var 3) (.cons (.var 1) .nil))) (.cons (.append (.slot 6) (.prim .add (.e (.var 7) (.e (.prim .len (.e (.comph (.var 8) [8,9] (.tup [(.var 8),(.var 9)]) (.var 5) (.cons (.prim .eq (.e (.var 8) (.e (.var 4) .nil))) .nil)) .nil)) .nil)))) .nil)) (.cons (.setO 10 (.lst .nil)) (.cons (.for (.tup [(.var 11),(.tup [(.var 7),(.var 12)]),(.var 13)]) (.zipM (.cons (.var 3) (.cons (.var 2) (.cons (.mvar 6) .nil)))) (.cons (.ite (.or (.prim .lt (.e (.var 7) (.e (.var 11) .nil))) (.prim .gt (.e (.prim .add (.e (.var 7) (.e (.prim .toInt (.e (.prim .gt (.e (.var 12) (.e (.lit (.int 0)) .nil))) .nil)) .nil))) (.e (.var 13) .nil)))) (.cons (.append (.slot 10) (.var 7)) .nil) .nil) .nil)) (.cons (.ite (.prim .eq (.b 10 (.e (.lst .nil) .nil))) (.cons (.ret (.lit (.bool true))) .nil) .nil) (.cons (.asg (.var 3) (.mvar 6)) .nil))))))) (.cons (.ret (.lit (.bool false))) .nil))) }
def zrz : Def:={ params:=3,slots:=7,za1:=[],cells:=[],defaults:=[],fresh:=true,esc:=false,lent:=[],freshT:=[],body:=(.cons (.par [3,4] (.e (.call zhf (.e (.var 0) (.e (.var 1) .nil))) (.f (.lst .nil) .nil))) (.cons (.for (.var 5) (.range (.cons (.prim .len (.e (.var 3) .nil)) .nil)) (.cons (.append (.slot 4) (.tup (.cons (.var 5) (.cons (.lit (.int 0)) .nil)))) (.cons (.ite (.and (.var 2) (.and (.prim .lt (.e (.prim .add (.e (.var 5) (.e (.lit (.int 1)) .nil))) (.e (.prim .len (.e (.var 3) .nil)) .nil))) (.and (.prim (.isinst [.tup]) (.e (.prim .item (.e (.var 3) (.e (.var 5) .nil))) .nil)) (.prim (.isinst [.tup]) (.e (.prim .item (.e (.var 3) (.e (.prim .add (.e (.var 5) (.e (.lit (.int 1)) .nil))) .nil))) .nil))))) (.cons (.ite (.prim .eq (.e (.prim .len (.e (.prim .item (.e (.var 3) (.e (.var 5) .nil))) .nil)) (.e (.prim .len (.e (.prim .item (.e (.var 3) (.e (.prim .add (.e (.var 5) (.e (.lit (.int 1)) .nil))) .nil))) .nil)) .nil))) (.cons (.extend (.slot 4) (.comp (.tup (.cons (.var 5) (.cons (.var 6) .nil))) [6] (.var 6) (.range (.cons (.lit (.int 1)) (.cons (.prim .len (.e (.prim .item (.e (.var 3) (.e (.var 5) .nil))) .nil)) .nil))) .nil)) .nil) .nil) .nil) .nil) .nil))) (.cons (.retO 4) .nil))) }
def Dl_kept : Def:={ params:=3,slots:=8,za1:=[],cells:=[],defaults:=[],fresh:=true,esc:=false,lent:=[],freshT:=[],body:=(.cons (.asg (.var 3) (.lst (.cons (.tup .nil) .nil))) (.cons (.for (.var 4) (.e (.var 1)) (.cons (.setO 5 (.lst .nil)) (.cons (.for (.var 6) (.e (.var 3)) (.cons (.extend (.slot 5) (.comp (.prim .add (.e (.var 6) (.e (.tup (.cons (.var 7) .nil)) .nil))) [7] (.var 7) (.e (.call zfG (.e (.var 0) (.e (.var 4) (.e (.prim .isin (.e (.var 4) (.e (.var 2) .nil))) .nil))))) .nil)) .nil)) (.cons (.asg (.var 3) (.mvar 5)) .nil)))) (.cons (.ret (.comp (.var 6) [6] (.var 6) (.e (.var 3)) (.cons (.call l_fits (.e (.var 0) (.e (.var 1) (.e (.var 6) .nil)))) .nil))) .nil))) }
def Df_key_of : Def:={ params:=1,slots:=2,za1:=[],cells:=[],defaults:=[],fresh:=false,esc:=false,lent:=[],freshT:=[],body:=(.cons (.ite (.prim (.isinst [.tup]) (.e (.var 0) .nil)) (.cons (.ret (.prim .add (.e (.tup (.cons (.lit (.str "tuple")) .nil)) (.e (.prim .tuple (.e (.comp (.call zaG (.e (.var 1) .nil)) [1] (.var 1) (.e (.var 0)) .nil) .nil)) .nil)))) .nil) .nil) (.cons (.ite (.prim (.isinst [.bool]) (.e (.var 0) .nil)) (.cons (.ret (.tup (.cons (.lit (.str "truth")) (.cons (.var 0) .nil)))) .nil) .nil) (.cons (.ret (.tup (.cons (.lit (.str "plain")) (.cons (.var 0) .nil)))) .nil))) }
def zlv : Def:={ params:=2,slots:=4,za1:=[],cells:=[],defaults:=[],fresh:=false,esc:=false,lent:=[],freshT:=[],body:=(.cons (.ite (.or (.not (.prim (.isinst [.tup]) (.e (.var 0) .nil))) (.prim .ne (.e (.prim .len (.e (.var 0) .nil)) (.e (.var 1) .nil)))) (.cons (.ret (.lit (.bool false))) .nil) .nil) (.cons (.for (.var 2) (.e (.var 0)) (.cons (.ite (.or (.not (.prim (.isinst [.tup]) (.e (.var 2) .nil))) (.or (.prim .ne (.e (.prim .len (.e (.var 2) .nil)) (.e (.lit (.int 2)) .nil))) (.not (.prim .all (.e (.comp (.call zaJ (.e (.var 3) .nil)) [3] (.var 3) (.e (.var 2)) .nil) .nil))))) (.cons (.ret (.lit (.bool false))) .nil) .nil) .nil)) (.cons (.ret (.lit (.bool true))) .nil))) }
def zmj : Def:={ params:=2,slots:=4,za1:=[],cells:=[],defaults:=[],fresh:=false,esc:=false,lent:=[],freshT:=[],body:=(.cons (.ite (.or (.not (.prim (.isinst [.tup]) (.e (.var 1) .nil))) (.or (.prim .ne (.e (.prim .len (.e (.var 1) .nil)) (.e (.lit (.int 2)) .nil))) (.not (.call zaJ (.e (.prim .item (.e (.var 1) (.e (.lit (.int 0)) .nil))) .nil))))) (.cons .never .nil) .nil) (.cons (.asg (.tup [(.var 2),(.var 3)]) (.var 1)) (.cons (.ite (.or (.not (.chain .le .le (.lit (.int 0)) (.var 2) (.prim .len (.e (.fld (.var 0) zga) .nil)))) (.not (.call zcL (.e (.var 3) (.e (.prim .len (.e (.fld (.var 0) zbj) .nil)) .nil))))) (.cons .never .nil) .nil) (.cons (.ite (.prim .notin (.e (.var 3) (.e (.meth (.var 0) zht (.e (.var 2) .nil) [1]) .nil))) (.cons .never .nil) .nil) (.cons (.ret (.meth (.var 0) zd9 (.e (.var 2) (.e (.var 3) .nil)) [1,2])) .nil))))) }
def zhA : Def:={ params:=3,slots:=10,za1:=[],cells:=[],defaults:=[],fresh:=false,esc:=false,lent:=[],freshT:=[],body:=(.cons (.asg (.tup [(.var 3),(.var 4)]) (.meth (.var 0) zdx (.e (.var 1) .nil) [1])) (.cons (.setO 5 (.dct .nil .nil)) (.cons (.for (.tup [(.var 6),(.tup [(.var 7),(.var 8)])]) (.zipM (.cons (.fld (.var 0) zbj) (.cons (.var 2) .nil))) (.cons (.asg (.var 9) (.meth (.var 0) zjJ (.e (.var 3) (.e (.var 4) (.e (.var 6) .nil))) [1,2,3])) (.cons (.setI (.slot 5) (.var 6) (.ifx (.prim .eq (.e (.var 8) (.e (.lit (.int 0)) .nil))) (.prim .item (.e (.var 9) (.e (.var 7) .nil))) (.prim .add (.e (.prim (.slice false true) (.e (.prim .item (.e (.var 9) (.e (.prim .add (.e (.var 7) (.e (.lit (.int 1)) .nil))) .nil))) (.e (.var 8) .nil))) (.e (.prim (.slice true false) (.e (.prim .item (.e (.var 9) (.e (.var 7) .nil))) (.e (.var 8) .nil))) .nil))))) .nil))) (.cons (.ret (.call zdo (.e (.mvar 5) .nil))) .nil)))) }
def zqe : Def:={ params:=1,slots:=4,za1:=[],cells:=[],defaults:=[],fresh:=true,esc:=false,lent:=[],freshT:=[],body:=(.cons (.setO 1 (.lst .nil)) (.cons (.for (.var 2) (.range (.cons (.prim .add (.e (.prim .len (.e (.fld (.var 0) zga) .nil)) (.e (.lit (.int 1)) .nil))) .nil)) (.cons (.extend (.slot 1) (.comp (.tup (.cons (.tup (.cons (.var 2) (.cons (.var 3) .nil))) (.cons (.meth (.var 0) zd9 (.e (.var 2) (.e (.var 3) .nil)) [1,2]) .nil))) [3] (.var 3) (.e (.meth (.var 0) zht (.e (.var 2) .nil) [1])) .nil)) .nil)) (.cons (.retO 1) .nil))) }
def zqd : Def:={ params:=1,slots:=5,za1:=[],cells:=[],defaults:=[],fresh:=true,esc:=false,lent:=[],freshT:=[],body:=(.cons (.par [1,2] (.f (.dct .nil .nil) (.f (.lst .nil) .nil))) (.cons (.for (.tup [(.var 3),(.var 4)]) (.e (.meth (.var 0) zok .nil [])) (.cons (.ite (.prim .notin (.e (.call zaG (.e (.var 4) .nil)) (.b 1 .nil))) (.cons (.setI (.slot 1) (.call zaG (.e (.var 4) .nil)) (.lit (.bool true))) (.cons (.append (.slot 2) (.tup (.cons (.var 4) (.cons (.var 3) .nil)))) .nil)) .nil) .nil)) (.cons (.retO 2) .nil))) }
def Dl_among : Def:={ params:=2,slots:=3,za1:=[],cells:=[],defaults:=[],fresh:=false,esc:=false,lent:=[],freshT:=[],body:=(.cons (.ret (.prim .any (.e (.comp (.call zbQ (.e (.var 2) (.e (.var 1) .nil))) [2] (.var 2) (.e (.var 0)) .nil) .nil))) .nil) }
def Dl_left : Def:={ params:=3,slots:=8,za1:=[],cells:=[],defaults:=[],fresh:=false,esc:=false,lent:=[],freshT:=[],body:=(.cons (.setO 3 (.lst .nil)) (.cons (.for (.tup [(.var 4),(.tup [(.var 5),(.var 6)])]) (.zipM (.cons (.var 1) (.cons (.var 2) .nil))) (.cons (.asg (.var 7) (.call zhf (.e (.var 0) (.e (.var 4) .nil)))) (.cons (.append (.slot 3) (.tup (.cons (.var 4) (.cons (.ifx (.prim .eq (.e (.var 6) (.e (.lit (.int 0)) .nil))) (.prim .item (.e (.var 7) (.e (.var 5) .nil))) (.prim .add (.e (.prim (.slice false true) (.e (.prim .item (.e (.var 7) (.e (.prim .add (.e (.var 5) (.e (.lit (.int 1)) .nil))) .nil))) (.e (.var 6) .nil))) (.e (.prim (.slice true false) (.e (.prim .item (.e (.var 7) (.e (.var 5) .nil))) (.e (.var 6) .nil))) .nil)))) .nil)))) .nil))) (.cons (.ret (.prim .tuple (.b 3 .nil))) .nil))) }
def Dl_falls : Def:={ params:=4,slots:=9,za1:=[],cells:=[],defaults:=[],fresh:=true,esc:=false,lent:=[],freshT:=[],body:=(.cons (.par [4,5] (.e (.prim .sorted (.e (.prim .item (.e (.var 2) (.e (.lit (.int 2)) .nil))) .nil)) (.f (.lst .nil) .nil))) (.cons (.for (.var 6) (.range (.cons (.prim .add (.e (.prim .len (.e (.prim .item (.e (.var 0) (.e (.lit (.int 0)) .nil))) .nil)) (.e (.lit (.int 1)) .nil))) .nil)) (.cons (.asg (.var 7) (.call l_late (.e (.var 0) (.e (.var 1) (.e (.var 6) (.e (.var 3) .nil)))))) (.cons (.for (.var 8) (.e (.call l_kept (.e (.var 7) (.e (.var 4) (.e (.prim .item (.e (.var 2) (.e (.lit (.int 3)) .nil))) .nil))))) (.cons (.append (.slot 5) (.tup (.cons (.tup (.cons (.var 6) (.cons (.var 8) .nil))) (.cons (.call l_left (.e (.var 7) (.e (.var 4) (.e (.var 8) .nil)))) .nil)))) .nil)) .nil))) (.cons (.retO 5) .nil))) }
def zmo : Def:={ params:=4,slots:=4,za1:=[],cells:=[],defaults:=[],fresh:=false,esc:=false,lent:=[],freshT:=[],body:=(.cons (.setF (.var 0) ziW (.var 1)) (.cons (.setF (.var 0) zd2 (.var 2)) (.cons (.setF (.var 0) zem (.var 3)) .nil))) }
def zlB : Def:={ params:=2,slots:=6,za1:=[],cells:=[],defaults:=[],fresh:=false,esc:=false,lent:=[],freshT:=[],body:=(.cons (.setF (.var 0) F_plan (.var 1)) (.cons (.setF (.var 0) zce (.call zdF (.e (.var 1) .nil))) (.cons (.setFO (.var 0) zdd (.dct .nil .nil)) (.cons (.setFO (.var 0) zde (.dct .nil .nil)) (.cons (.setFO (.var 0) zfu (.dct .nil .nil)) (.cons (.setFO (.var 0) zaX (.lst .nil)) (.cons (.for (.tup [(.var 2),(.var 3)]) (.e (.meth (.fld (.var 0) zce) zok .nil [])) (.cons (.expr (.meth (.var 0) M_add (.e (.var 3) (.e (.meth (.fld (.var 0) zce) zhs (.e (.prim .item (.e (.var 2) (.e (.lit (.int 0)) .nil))) .nil) [1]) (.e (.lst (.cons (.var 2) .nil)) .nil))) [1,2,3])) .nil)) (.cons (.asg (.var 4) (.lit (.int 0))) (.cons (.while (.prim .lt (.e (.var 4) (.e (.prim .len (.bf (.var 0) zaX .nil)) .nil))) (.cons (.asg (.var 5) (.prim .item (.bf (.var 0) zaX (.e (.var 4) .nil)))) (.cons (.for (.tup [(.var 3),(.var 2)]) (.e (.meth (.var 0) zdI (.e (.fld (.var 5) ziW) .nil) [1])) (.cons (.expr (.meth (.var 0) M_add (.e (.var 3) (.e (.fldm (.var 5) zd2) (.e (.prim .add (.e (.fld (.var 5) zem) (.e (.lst (.cons (.var 2) .nil)) .nil))) .nil))) [1,2,3])) .nil)) (.cons (.aug 4 (.lit (.int 1))) .nil)))) .nil))))))))) }
def zqh : Def:={ params:=4,slots:=5,za1:=[],cells:=[],defaults:=[],fresh:=false,esc:=false,lent:=[],freshT:=[],body:=(.cons (.asg (.var 4) (.tup (.cons (.call zaG (.e (.var 1) .nil)) (.cons (.call zaG (.e (.var 2) .nil)) .nil)))) (.cons (.ite (.prim .isin (.e (.var 4) (.bf (.var 0) zfu .nil))) (.cons (.ret (.lit .none)) .nil) .nil) (.cons (.ite (.prim .eq (.e (.prim .len (.bf (.var 0) zaX .nil)) (.e (.fld (.fld (.var 0) F_plan) zn2) .nil))) (.cons .never .nil) .nil) (.cons (.setI (.fld (.var 0) zfu) (.var 4) (.prim .len (.bf (.var 0) zaX .nil))) (.cons (.append (.fld (.var 0) zaX) (.new C_Left (.e (.var 1) (.e (.var 2) (.e (.var 3) .nil))) [1,2,3])) .nil))))) }
def zmq : Def:={ params:=4,slots:=5,za1:=[],cells:=[],defaults:=[],fresh:=false,esc:=false,lent:=[],freshT:=[],body:=(.cons (.asg (.var 4) (.tup (.cons (.call zaG (.e (.var 1) .nil)) (.cons (.call zaG (.e (.var 2) .nil)) .nil)))) (.cons (.ite (.prim .isin (.e (.var 4) (.bf (.var 0) zfu .nil))) (.cons (.ret (.lit .none)) .nil) .nil) (.cons (.ite (.prim .eq (.e (.prim .len (.bf (.var 0) zaX .nil)) (.e (.fld (.fld (.var 0) F_plan) zn2) .nil))) (.cons (.raise zdN .nil) .nil) .nil) (.cons (.setI (.fld (.var 0) zfu) (.var 4) (.prim .len (.bf (.var 0) zaX .nil))) (.cons (.append (.fld (.var 0) zaX) (.new C_Left (.e (.var 1) (.e (.var 2) (.e (.var 3) .nil))) [1,2,3])) .nil))))) }
def zju : Def:={ params:=2,slots:=3,za1:=[],cells:=[],defaults:=[],fresh:=false,esc:=false,lent:=[],freshT:=[],body:=(.cons (.asg (.var 2) (.call zaG (.e (.var 1) .nil))) (.cons (.ite (.prim .notin (.e (.var 2) (.bf (.var 0) zdd .nil))) (.cons (.setI (.fld (.var 0) zdd) (.var 2) (.call zcn (.e (.fld (.var 0) F_plan) (.e (.var 1) .nil)))) .nil) .nil) (.cons (.ret (.prim .item (.bf (.var 0) zdd (.e (.var 2) .nil)))) .nil))) }
def zgD : Def:={ params:=2,slots:=3,za1:=[],cells:=[],defaults:=[],fresh:=false,esc:=false,lent:=[],freshT:=[],body:=(.cons (.asg (.var 2) (.call zaG (.e (.var 1) .nil))) (.cons (.ite (.prim .notin (.e (.var 2) (.bf (.var 0) zde .nil))) (.cons (.setI (.fld (.var 0) zde) (.var 2) (.meth (.meth (.var 0) zfq (.e (.var 1) .nil) [1]) zoj .nil [])) .nil) .nil) (.cons (.ret (.prim .item (.bf (.var 0) zde (.e (.var 2) .nil)))) .nil))) }
def zrG : Def:={ params:=1,slots:=1,za1:=[],cells:=[],defaults:=[],fresh:=false,esc:=false,lent:=[],freshT:=[],body:=(.cons (.ite (.prim .isNone (.e (.fld (.var 0) ziD) .nil)) (.cons (.setF (.var 0) ziD (.new zrL (.e (.var 0) .nil) [1])) .nil) .nil) (.cons (.ret (.fld (.var 0) ziD)) .nil)) }
def zou : Def:={ params:=2,slots:=2,za1:=[],cells:=[],defaults:=[],fresh:=false,esc:=false,lent:=[],freshT:=[],body:=(.cons (.ret (.tup (.cons (.var 0) (.cons (.meth (.var 1) M_end .nil []) (.cons (.meth (.var 1) zee (.e (.prim .len (.e (.meth (.var 1) zix .nil []) .nil)) .nil) [1]) .nil))))) .nil) }
def zrE : Def:={ params:=1,slots:=8,za1:=[],cells:=[],defaults:=[],fresh:=true,esc:=false,lent:=[],freshT:=[],body:=(.cons (.asg (.var 1) (.call zbM (.e (.var 0) .nil))) (.cons (.par [2,3] (.f (.dct .nil .nil) (.f (.lst .nil) .nil))) (.cons (.setO 4 (.lst (.cons (.tup (.cons (.call zca (.e (.meth (.fld (.var 1) zce) M_said .nil []) (.e (.fld (.var 1) zce) .nil))) (.cons (.lst .nil) .nil))) .nil))) (.cons (.extend (.slot 4) (.comp (.tup (.cons (.call zca (.e (.fldm (.var 5) zd2) (.e (.meth (.var 1) zfq (.e (.fld (.var 5) ziW) .nil) [1]) .nil))) (.cons (.fld (.var 5) zem) .nil))) [5] (.var 5) (.e (.fldm (.var 1) zaX)) .nil)) (.cons (.for (.tup [(.var 6),(.var 7)]) (.e (.mvar 4)) (.cons (.ite (.prim .notin (.e (.call zaG (.e (.var 6) .nil)) (.b 2 .nil))) (.cons (.setI (.slot 2) (.call zaG (.e (.var 6) .nil)) (.lit (.bool true))) (.cons (.append (.slot 3) (.tup (.cons (.var 6) (.cons (.prim .list (.e (.var 7) .nil)) .nil)))) .nil)) .nil) .nil)) (.cons (.retO 3) .nil)))))) }
def Df_disks : Def:={ params:=1,slots:=5,za1:=[],cells:=[],defaults:=[],fresh:=true,esc:=false,lent:=[],freshT:=[],body:=(.cons (.asg (.var 1) (.call zbM (.e (.var 0) .nil))) (.cons (.par [2,3] (.f (.dct (.cons (.call zaG (.e (.meth (.var 0) zgx .nil []) .nil)) .nil) (.cons (.lit (.bool true)) .nil)) (.f (.lst (.cons (.tup (.cons (.meth (.var 0) zgx .nil []) (.cons (.lst .nil) .nil))) .nil)) .nil))) (.cons (.for (.var 4) (.e (.fldm (.var 1) zaX)) (.cons (.ite (.prim .notin (.e (.call zaG (.e (.fld (.var 4) ziW) .nil)) (.b 2 .nil))) (.cons (.setI (.slot 2) (.call zaG (.e (.fld (.var 4) ziW) .nil)) (.lit (.bool true))) (.cons (.append (.slot 3) (.tup (.cons (.fld (.var 4) ziW) (.cons (.prim .list (.e (.fld (.var 4) zem) .nil)) .nil)))) .nil)) .nil) .nil)) (.cons (.retO 3) .nil)))) }
def Df_is_same : Def:={ params:=2,slots:=2,za1:=[],cells:=[],defaults:=[],fresh:=false,esc:=false,lent:=[],freshT:=[],body:=(.cons (.ret (.prim .eq (.e (.call zaG (.e (.var 0) .nil)) (.e (.call zaG (.e (.var 1) .nil)) .nil)))) .nil) }
def zmm : Def:={ params:=3,slots:=4,za1:=[],cells:=[],defaults:=[],fresh:=false,esc:=false,lent:=[],freshT:=[],body:=(.cons (.asg (.var 3) (.new zqi (.e (.fld (.var 0) zq5) (.e (.fld (.var 0) zq6) (.e (.fld (.var 0) zc7) (.e (.fld (.var 0) zay) (.e (.fld (.var 0) zcX) (.e (.fld (.var 0) zn2) .nil)))))) [1,2,3,4,5,6])) (.cons (.setF (.var 3) zan (.prim .add (.e (.fld (.var 0) zan) (.e (.prim .list (.e (.var 1) .nil)) .nil)))) (.cons (.setF (.var 3) zcN (.prim .add (.e (.fld (.var 0) zcN) (.e (.prim .list (.e (.var 2) .nil)) .nil)))) (.cons (.ret (.var 3)) .nil)))) }
def zlA : Def:={ params:=2,slots:=3,za1:=[],cells:=[],defaults:=[],fresh:=false,esc:=false,lent:=[],freshT:=[],body:=(.cons (.asg (.var 2) (.meth (.var 0) zfq (.e (.var 1) .nil) [1])) (.cons (.ret (.meth (.var 2) zee (.e (.prim .len (.e (.fld (.var 2) zga) .nil)) .nil) [1])) .nil)) }
def zrH : Def:={ params:=2,slots:=7,za1:=[],cells:=[],defaults:=[],fresh:=false,esc:=false,lent:=[],freshT:=[],body:=(.cons (.asg (.var 2) (.call zdF (.e (.var 0) .nil))) (.cons (.par [3,4] (.e (.meth (.var 0) zgx .nil []) (.e (.meth (.var 2) M_said .nil []) .nil))) (.cons (.for (.tup [(.var 5),(.var 6)]) (.enum (.var 1)) (.cons (.asg (.var 3) (.meth (.var 2) zll (.e (.var 6) .nil) [1])) (.cons (.asg (.var 4) (.ifx (.prim .eq (.e (.var 5) (.e (.lit (.int 0)) .nil))) (.meth (.var 2) zhs (.e (.prim .item (.e (.var 6) (.e (.lit (.int 0)) .nil))) .nil) [1]) (.var 4))) (.cons (.asg (.var 2) (.call zcn (.e (.var 0) (.e (.var 3) .nil)))) .nil)))) (.cons (.ret (.tup (.cons (.var 3) (.cons (.var 4) (.cons (.var 2) .nil))))) .nil)))) }
def Df_outcome : Def:={ params:=2,slots:=5,za1:=[],cells:=[],defaults:=[],fresh:=false,esc:=false,lent:=[],freshT:=[],body:=(.cons (.asg (.tup [(.var 2),(.var 3),(.var 4)]) (.call ze8 (.e (.var 0) (.e (.var 1) .nil)))) (.cons (.ret (.call zca (.e (.var 3) (.e (.var 4) .nil)))) .nil)) }
def Df_is_disk : Def:={ params:=2,slots:=5,za1:=[],cells:=[],defaults:=[],fresh:=false,esc:=false,lent:=[],freshT:=[],body:=(.cons (.asg (.var 2) (.meth (.var 0) zoi .nil [])) (.cons (.ite (.or (.not (.prim (.isinst [.tup]) (.e (.var 1) .nil))) (.prim .ne (.e (.prim .len (.e (.var 1) .nil)) (.e (.prim .len (.e (.var 2) .nil)) .nil)))) (.cons (.ret (.lit (.bool false))) .nil) .nil) (.cons (.for (.tup [(.var 3),(.var 4)]) (.zipM (.cons (.var 1) (.cons (.var 2) .nil))) (.cons (.ite (.or (.not (.prim (.isinst [.tup]) (.e (.var 3) .nil))) (.or (.prim .ne (.e (.prim .len (.e (.var 3) .nil)) (.e (.lit (.int 2)) .nil))) (.or (.prim .ne (.e (.prim .item (.e (.var 3) (.e (.lit (.int 0)) .nil))) (.e (.var 4) .nil))) (.not (.call zb1 (.e (.prim .item (.e (.var 3) (.e (.lit (.int 1)) .nil))) .nil)))))) (.cons (.ret (.lit (.bool false))) .nil) .nil) .nil)) (.cons (.ret (.lit (.bool true))) .nil)))) }
def zqa : Def:={ params:=2,slots:=8,za1:=[],cells:=[],defaults:=[],fresh:=false,esc:=false,lent:=[],freshT:=[],body:=(.cons (.asg (.var 2) (.call zbM (.e (.var 0) .nil))) (.cons (.ite (.or (.not (.prim (.isinst [.lst,.tup]) (.e (.var 1) .nil))) (.not (.prim .all (.e (.comp (.call zhm (.e (.var 0) (.e (.var 3) .nil))) [3] (.var 3) (.e (.var 1)) .nil) .nil)))) (.cons (.ret (.lit (.bool false))) .nil) .nil) (.cons (.asg (.var 4) (.prim .dict (.e (.comp (.tup (.cons (.call zaG (.e (.var 3) .nil)) (.cons (.lit (.bool true)) .nil))) [3] (.var 3) (.e (.var 1)) .nil) .nil))) (.cons (.setO 5 (.comp (.var 3) [3,6] (.tup [(.var 3),(.var 6)]) (.e (.meth (.fld (.var 2) zce) zoj .nil [])) .nil)) (.cons (.for (.var 3) (.e (.var 1)) (.cons (.extend (.slot 5) (.comp (.var 7) [7,6] (.tup [(.var 7),(.var 6)]) (.e (.meth (.var 2) zdI (.e (.var 3) .nil) [1])) .nil)) .nil)) (.cons (.ret (.prim .all (.e (.comp (.prim .isin (.e (.call zaG (.e (.var 3) .nil)) (.e (.var 4) .nil))) [3] (.var 3) (.e (.mvar 5)) .nil) .nil))) .nil)))))) }
def zrC : Def:={ params:=2,slots:=3,za1:=[],cells:=[],defaults:=[],fresh:=false,esc:=false,lent:=[],freshT:=[],body:=(.cons (.asg (.var 2) (.callv (.var 0) (.e (.var 1) .nil))) (.cons (.ite (.not (.prim (.isinst [.bool]) (.e (.var 2) .nil))) (.cons (.raise zcG (.cons (.var 2) .nil)) .nil) .nil) (.cons (.ret (.var 2)) .nil))) }
def Df_first : Def:={ params:=2,slots:=4,za1:=[],cells:=[],defaults:=[],fresh:=false,esc:=false,lent:=[],freshT:=[],body:=(.cons (.for (.tup [(.var 2),(.var 3)]) (.e (.call zc9 (.e (.var 0) .nil))) (.cons (.ite (.call zcB (.e (.var 1) (.e (.var 2) .nil))) (.cons (.ret (.var 3)) .nil) .nil) .nil)) (.cons (.ret (.lit .none)) .nil)) }
def Df_some : Def:={ params:=2,slots:=2,za1:=[],cells:=[],defaults:=[],fresh:=false,esc:=false,lent:=[],freshT:=[],body:=(.cons (.ret (.prim .notNone (.e (.call zlb (.e (.var 0) (.e (.var 1) .nil))) .nil))) .nil) }
def Df_every : Def:={ params:=2,slots:=4,za1:=[],cells:=[],defaults:=[],fresh:=false,esc:=false,lent:=[],freshT:=[],body:=(.cons (.for (.tup [(.var 2),(.var 3)]) (.e (.call zc9 (.e (.var 0) .nil))) (.cons (.ite (.not (.call zcB (.e (.var 1) (.e (.var 2) .nil)))) (.cons (.ret (.lit (.bool false))) .nil) .nil) .nil)) (.cons (.ret (.lit (.bool true))) .nil)) }
def zq8 : Def:={ params:=1,slots:=7,za1:=[],cells:=[],defaults:=[],fresh:=false,esc:=false,lent:=[],freshT:=[],body:=(.cons (.asg (.var 1) (.call zbM (.e (.var 0) .nil))) (.cons (.asg (.var 2) (.fld (.var 1) zce)) (.cons (.asg (.var 3) (.meth (.var 1) zeM (.e (.meth (.var 0) zgx .nil []) .nil) [1])) (.cons (.asg (.var 4) (.meth (.var 1) zeM (.e (.meth (.var 2) zee (.e (.prim .len (.e (.meth (.var 2) zix .nil []) .nil)) .nil) [1]) .nil) [1])) (.cons (.for (.var 5) (.e (.fldm (.var 1) zaX)) (.cons (.asg (.var 6) (.meth (.var 1) zeM (.e (.fld (.var 5) ziW) .nil) [1])) (.cons (.ite (.and (.not (.call ze7 (.e (.var 6) (.e (.var 3) .nil)))) (.not (.call ze7 (.e (.var 6) (.e (.var 4) .nil))))) (.cons (.ret (.box (.prim .list (.e (.fld (.var 5) zem) .nil)))) .nil) .nil) .nil))) (.cons (.ret (.lit .none)) .nil)))))) }
def zmf : Def:={ params:=1,slots:=4,za1:=[],cells:=[],defaults:=[],fresh:=false,esc:=false,lent:=[],freshT:=[],body:=(.cons (.asg (.var 1) (.call zbM (.e (.var 0) .nil))) (.cons (.for (.var 2) (.e (.fldm (.var 1) zaX)) (.cons (.asg (.var 3) (.meth (.var 1) zeM (.e (.fld (.var 2) ziW) .nil) [1])) (.cons (.ite (.not (.call ze7 (.e (.meth (.var 1) zeM (.e (.var 3) .nil) [1]) (.e (.var 3) .nil)))) (.cons (.ret (.box (.prim .list (.e (.fld (.var 2) zem) .nil)))) .nil) .nil) .nil))) (.cons (.ret (.lit .none)) .nil))) }
def Df_guards : Def:={ params:=1,slots:=1,za1:=[],cells:=[],defaults:=[],fresh:=true,esc:=false,lent:=[],freshT:=[],body:=(.cons (.ret (.call zdn (.e (.var 0) (.e (.call zdF (.e (.var 0) .nil)) .nil)))) .nil) }
def zqb : Def:={ params:=2,slots:=6,za1:=[],cells:=[],defaults:=[],fresh:=true,esc:=false,lent:=[],freshT:=[],body:=(.cons (.asg (.var 2) (.comp (.var 3) [3,4,5] (.tup [(.var 3),(.tup [(.var 4),(.var 5)])]) (.enum (.meth (.var 1) zix .nil [])) (.cons (.prim .isin (.e (.prim .item (.e (.var 4) (.e (.lit (.int 0)) .nil))) (.e (.tup (.cons (.lit (.str "barrier")) (.cons (.lit (.str "flush")) .nil))) .nil))) .nil))) (.cons (.ret (.comp (.var 3) [3] (.var 3) (.e (.var 2)) (.cons (.prim .notin (.e (.var 3) (.e (.fld (.var 0) zan) .nil))) .nil))) .nil)) }
def Df_spared : Def:={ params:=2,slots:=4,za1:=[],cells:=[],defaults:=[],fresh:=false,esc:=false,lent:=[],freshT:=[],body:=(.cons (.asg (.var 2) (.call zdn (.e (.var 0) (.e (.call zdF (.e (.var 0) .nil)) .nil)))) (.cons (.for (.var 3) (.e (.var 1)) (.cons (.ite (.or (.not (.call zaJ (.e (.var 3) .nil))) (.prim .notin (.e (.var 3) (.e (.var 2) .nil)))) (.cons (.raise zcK (.cons (.var 3) .nil)) .nil) .nil) .nil)) (.cons (.ret (.meth (.var 0) zfM (.e (.var 1) (.e (.lst .nil) .nil)) [1,2])) .nil))) }
def Df_flushed : Def:={ params:=2,slots:=2,za1:=[],cells:=[],defaults:=[],fresh:=false,esc:=false,lent:=[],freshT:=[],body:=(.cons (.expr (.call zbW (.e (.call zdF (.e (.var 0) .nil)) (.e (.var 1) .nil)))) (.cons (.ret (.meth (.var 0) zfM (.e (.lst .nil) (.e (.var 1) .nil)) [1,2])) .nil)) }
def zlw : Def:={ params:=2,slots:=3,za1:=[],cells:=[],defaults:=[],fresh:=false,esc:=false,lent:=[],freshT:=[],body:=(.cons (.for (.var 2) (.e (.var 1)) (.cons (.ite (.or (.not (.call zaJ (.e (.var 2) .nil))) (.not (.chain .le .lt (.lit (.int 0)) (.var 2) (.prim .len (.e (.meth (.var 0) zix .nil []) .nil))))) (.cons (.raise zcJ (.cons (.var 2) .nil)) .nil) .nil) .nil)) .nil) }
def lam13 : Def:={ params:=1,slots:=4,za1:=[],cells:=[],caps:=2,body:=(.cons (.ret (.meth (.cvar 1) zfM (.e (.comp (.var 3) [3] (.var 3) (.e (.cvar 2)) (.cons (.prim .notin (.e (.var 3) (.e (.var 0) .nil))) .nil)) (.e (.lst .nil) .nil)) [1,2])) .nil) }
def zow : Def:={ params:=1,slots:=6,za1:=[],cells:=[],defaults:=[],fresh:=true,esc:=false,lent:=[],freshT:=[],body:=(.cons (.par [1,2] (.f (.lst (.cons (.lst .nil) .nil)) (.e (.lst (.cons (.lst .nil) .nil)) .nil))) (.cons (.for (.var 3) (.range (.cons (.prim .len (.e (.var 0) .nil)) .nil)) (.cons (.asg (.var 2) (.comp2h (.prim .add (.e (.var 4) (.e (.lst (.cons (.var 5) .nil)) .nil))) [4,5] (.var 4) (.var 2) [5] (.var 5) (.var 0) (.cons (.or (.prim .eq (.e (.var 4) (.e (.lst .nil) .nil))) (.prim .gt (.e (.var 5) (.e (.prim .item (.e (.var 4) (.e (.prim .neg (.e (.lit (.int 1)) .nil)) .nil))) .nil)))) .nil))) (.cons (.extend (.slot 1) (.var 2)) .nil))) (.cons (.retO 1) .nil))) }
def zjq : Def:={ params:=3,slots:=10,za1:=[],cells:=[],defaults:=[],fresh:=false,esc:=false,lent:=[],freshT:=[],body:=(.cons (.asg (.var 3) (.box (.lst .nil))) (.cons (.for (.var 4) (.e (.call zcQ (.e (.var 0) .nil))) (.cons (.asg (.var 5) (.not (.prim .any (.e (.comph (.prim .all (.e (.comph (.prim .isin (.e (.var 6) (.e (.var 4) .nil))) [6] (.var 6) (.var 7) .nil) .nil)) [7] (.var 7) (.var 3) .nil) .nil)))) (.cons (.ite (.and (.var 5) (.not (.prim .any (.e (.comp (.call zcB (.e (.var 2) (.e (.var 8) .nil))) [8,9] (.tup [(.var 8),(.var 9)]) (.e (.call zc9 (.e (.callv (.var 1) (.e (.var 4) .nil)) .nil))) .nil) .nil)))) (.cons (.append (.val (.var 3)) (.var 4)) .nil) .nil) .nil))) (.cons (.ret (.var 3)) .nil))) }
def zhz : Def:={ params:=3,slots:=10,za1:=[],cells:=[],defaults:=[],fresh:=false,esc:=false,lent:=[],freshT:=[],body:=(.cons (.asg (.var 3) (.box (.lst .nil))) (.cons (.for (.var 4) (.e (.call zcQ (.e (.var 0) .nil))) (.cons (.asg (.var 5) (.not (.prim .any (.e (.comph (.prim .all (.e (.comph (.prim .isin (.e (.var 6) (.e (.var 4) .nil))) [6] (.var 6) (.var 7) .nil) .nil)) [7] (.var 7) (.var 3) .nil) .nil)))) (.cons (.ite (.and (.var 5) (.not (.prim .any (.e (.compx (.call zcB (.e (.var 2) (.e (.var 8) .nil))) [8,9] (.tup [(.var 8),(.var 9)]) (.e (.call zc9 (.e (.callv (.var 1) (.e (.var 4) .nil)) .nil)))) .nil)))) (.cons (.append (.val (.var 3)) (.var 4)) .nil) .nil) .nil))) (.cons (.ret (.var 3)) .nil))) }
def zlu : Def:={ params:=2,slots:=3,za1:=[0],cells:=[2],defaults:=[],fresh:=false,esc:=false,lent:=[],freshT:=[],body:=(.cons (.asg (.cvar 2) (.call zjD (.e (.cvar 0) .nil))) (.cons (.ret (.call zbd (.e (.cvar 2) (.e (.lam 13 [0,2]) (.e (.var 1) .nil))))) .nil)) }
def Dl_key : Def:={ params:=1,slots:=2,za1:=[],cells:=[],defaults:=[],fresh:=false,esc:=false,lent:=[],freshT:=[],body:=(.cons (.ite (.prim (.isinst [.tup]) (.e (.var 0) .nil)) (.cons (.ret (.prim .add (.e (.tup (.cons (.lit (.str "tuple")) .nil)) (.e (.prim .tuple (.e (.comp (.call zkS (.e (.var 1) .nil)) [1] (.var 1) (.e (.var 0)) .nil) .nil)) .nil)))) .nil) .nil) (.cons (.ret (.tup (.cons (.ifx (.prim (.isinst [.bool]) (.e (.var 0) .nil)) (.lit (.str "truth")) (.lit (.str "plain"))) (.cons (.var 0) .nil)))) .nil)) }
def Dl_closure : Def:={ params:=3,slots:=16,za1:=[],cells:=[],defaults:=[],fresh:=false,esc:=false,lent:=[],freshT:=[],body:=(.cons (.par [3,4,5] (.e (.call zma (.e (.prim .item (.e (.var 0) (.e (.lit (.int 0)) .nil))) (.e (.prim .item (.e (.var 0) (.e (.lit (.int 2)) .nil))) .nil))) (.f (.lst .nil) (.f (.dct .nil .nil) .nil)))) (.cons (.asg (.var 6) (.comp (.tup (.cons (.var 8) (.cons (.call zgp (.e (.var 3) (.e (.prim .item (.e (.var 7) (.e (.lit (.int 0)) .nil))) .nil))) (.cons (.lst (.cons (.var 7) .nil)) .nil)))) [7,8] (.tup [(.var 7),(.var 8)]) (.e (.call zif (.e (.var 3) (.e (.prim .item (.e (.var 0) (.e (.lit (.int 2)) .nil))) (.e (.var 0) (.e (.var 1) .nil)))))) .nil)) (.cons (.asg (.var 9) (.lit (.int 0))) (.cons (.while (.lit (.bool true)) (.cons (.for (.tup [(.var 8),(.var 10),(.var 11)]) (.e (.var 6)) (.cons (.asg (.var 12) (.tup (.cons (.call zkS (.e (.var 8) .nil)) (.cons (.call zkS (.e (.var 10) .nil)) .nil)))) (.cons (.ite (.prim .notin (.e (.var 12) (.b 5 .nil))) (.cons (.setI (.slot 5) (.var 12) (.lit (.bool true))) (.cons (.append (.slot 4) (.tup (.cons (.var 8) (.cons (.var 10) (.cons (.var 11) .nil))))) .nil)) .nil) .nil))) (.cons (.ite (.prim .gt (.e (.prim .len (.b 4 .nil)) (.e (.var 2) .nil))) (.cons (.ret (.lit .none)) .nil) .nil) (.cons (.ite (.prim .eq (.e (.var 9) (.e (.prim .len (.b 4 .nil)) .nil))) (.cons (.ret (.mvar 4)) .nil) .nil) (.cons (.asg (.tup [(.var 8),(.var 10),(.var 11)]) (.prim .item (.b 4 (.e (.var 9) .nil)))) (.cons (.asg (.var 9) (.prim .add (.e (.var 9) (.e (.lit (.int 1)) .nil)))) (.cons (.asg (.var 13) (.prim .dict (.e (.var 8) .nil))) (.cons (.asg (.var 14) (.call zma (.e (.prim .item (.e (.var 0) (.e (.lit (.int 1)) .nil))) (.e (.var 13) .nil)))) (.cons (.asg (.var 6) (.comp (.tup (.cons (.var 15) (.cons (.var 10) (.cons (.prim .add (.e (.var 11) (.e (.lst (.cons (.var 7) .nil)) .nil))) .nil)))) [7,15] (.tup [(.var 7),(.var 15)]) (.e (.call zif (.e (.var 14) (.e (.var 13) (.e (.var 0) (.e (.tup (.cons (.tup .nil) (.cons (.tup .nil) .nil))) .nil)))))) .nil)) .nil))))))))) .nil)))) }
def zrA : Def:={ params:=2,slots:=11,za1:=[],cells:=[],defaults:=[],fresh:=true,esc:=false,lent:=[],freshT:=[],body:=(.cons (.par [2,3] (.e (.call zma (.e (.prim .item (.e (.var 0) (.e (.lit (.int 0)) .nil))) (.e (.prim .item (.e (.var 0) (.e (.lit (.int 2)) .nil))) .nil))) (.f (.lst .nil) .nil))) (.cons (.setO 4 (.lst (.cons (.tup (.cons (.tup (.cons (.call zgp (.e (.var 2) (.e (.prim .len (.e (.prim .item (.e (.var 2) (.e (.lit (.int 0)) .nil))) .nil)) .nil))) (.cons (.prim .item (.e (.var 2) (.e (.lit (.int 2)) .nil))) (.cons (.call zic (.e (.var 2) (.e (.prim .item (.e (.var 0) (.e (.lit (.int 2)) .nil))) (.e (.prim .len (.e (.prim .item (.e (.var 2) (.e (.lit (.int 0)) .nil))) .nil)) .nil)))) .nil)))) (.cons (.lst .nil) .nil))) .nil))) (.cons (.for (.tup [(.var 5),(.var 6),(.var 7)]) (.e (.var 1)) (.cons (.asg (.var 8) (.call zma (.e (.prim .item (.e (.var 0) (.e (.lit (.int 1)) .nil))) (.e (.prim .dict (.e (.var 5) .nil)) .nil)))) (.cons (.append (.slot 4) (.tup (.cons (.tup (.cons (.var 6) (.cons (.prim .item (.e (.var 8) (.e (.lit (.int 2)) .nil))) (.cons (.call zic (.e (.var 8) (.e (.prim .dict (.e (.var 5) .nil)) (.e (.prim .len (.e (.prim .item (.e (.var 8) (.e (.lit (.int 0)) .nil))) .nil)) .nil)))) .nil)))) (.cons (.var 7) .nil)))) .nil))) (.cons (.setO 9 (.dct .nil .nil)) (.cons (.for (.tup [(.var 10),(.var 7)]) (.e (.mvar 4)) (.cons (.ite (.prim .notin (.e (.call zkS (.e (.var 10) .nil)) (.b 9 .nil))) (.cons (.setI (.slot 9) (.call zkS (.e (.var 10) .nil)) (.lit (.bool true))) (.cons (.append (.slot 3) (.tup (.cons (.var 10) (.cons (.var 7) .nil)))) .nil)) .nil) .nil)) (.cons (.retO 3) .nil)))))) }
def Dl_within : Def:={ params:=2,slots:=3,za1:=[],cells:=[],defaults:=[],fresh:=false,esc:=false,lent:=[],freshT:=[],body:=(.cons (.asg (.var 2) (.call zfh (.e (.var 0) (.e (.tup (.cons (.tup .nil) (.cons (.tup .nil) .nil))) (.e (.var 1) .nil))))) (.cons (.while (.prim .isNone (.e (.var 2) .nil)) (.cons (.asg (.var 0) (.tup (.cons (.prim (.slice false true) (.e (.prim .item (.e (.var 0) (.e (.lit (.int 0)) .nil))) (.e (.prim .neg (.e (.lit (.int 1)) .nil)) .nil))) (.cons (.prim (.slice false true) (.e (.prim .item (.e (.var 0) (.e (.lit (.int 1)) .nil))) (.e (.prim .neg (.e (.lit (.int 1)) .nil)) .nil))) (.cons (.prim .item (.e (.var 0) (.e (.lit (.int 2)) .nil))) (.cons (.prim .item (.e (.var 0) (.e (.lit (.int 3)) .nil))) .nil)))))) (.cons (.asg (.var 2) (.call zfh (.e (.var 0) (.e (.tup (.cons (.tup .nil) (.cons (.tup .nil) .nil))) (.e (.var 1) .nil))))) .nil))) (.cons (.ret (.tup (.cons (.var 0) (.cons (.var 2) .nil)))) .nil))) }
def Df_left : Def:={ params:=2,slots:=2,za1:=[],cells:=[],defaults:=[],fresh:=false,esc:=false,lent:=[],freshT:=[],body:=(.cons (.ret (.prim .item (.e (.call ze8 (.e (.var 0) (.e (.var 1) .nil))) (.e (.lit (.int 0)) .nil)))) .nil) }
def Dl_drawn : Def:={ params:=3,slots:=8,za1:=[],cells:=[],defaults:=[],fresh:=false,esc:=false,lent:=[0],freshT:=[],body:=(.cons (.asg (.var 3) (.prim (.slice false true) (.e (.lst (.cons (.lit (.str "a")) (.cons (.lit (.str "b")) (.cons (.lit (.str "c")) .nil)))) (.e (.prim .add (.e (.lit (.int 1)) (.e (.call zby (.p 0 (.e (.lit (.int 3)) .nil))) .nil))) .nil)))) (.cons (.asg (.var 4) (.comp (.var 5) [5] (.var 5) (.e (.var 3)) (.cons (.prim .eq (.e (.call zby (.p 0 (.e (.lit (.int 2)) .nil))) (.e (.lit (.int 0)) .nil))) .nil))) (.cons (.asg (.var 6) (.call zpw (.p 0 (.e (.var 3) (.e (.prim .add (.e (.lit (.int 1)) (.e (.call zby (.p 0 (.e (.var 1) .nil))) .nil))) .nil))))) (.cons (.asg (.var 7) (.call zpw (.p 0 (.e (.var 3) (.e (.call zby (.p 0 (.e (.prim .add (.e (.var 2) (.e (.lit (.int 1)) .nil))) .nil))) .nil))))) (.cons (.ret (.tup (.cons (.var 6) (.cons (.var 7) (.cons (.prim .dict (.e (.comp (.tup (.cons (.var 5) (.cons (.call zib (.p 0 .nil)) .nil))) [5] (.var 5) (.e (.var 3)) .nil) .nil)) (.cons (.var 4) .nil)))))) .nil))))) }
def Dl_disk_of : Def:={ params:=1,slots:=2,za1:=[],cells:=[],defaults:=[],fresh:=false,esc:=false,lent:=[],freshT:=[],body:=(.cons (.ret (.prim .tuple (.e (.comp (.tup (.cons (.var 1) (.cons (.prim .item (.e (.prim .item (.e (.var 0) (.e (.lit (.int 2)) .nil))) (.e (.var 1) .nil))) .nil))) [1] (.var 1) (.e (.prim .sorted (.e (.prim .item (.e (.var 0) (.e (.lit (.int 2)) .nil))) .nil))) .nil) .nil))) .nil) }
def Dl_walk : Def:={ params:=3,slots:=11,za1:=[],cells:=[],defaults:=[],fresh:=false,esc:=false,lent:=[0],freshT:=[],body:=(.cons (.par [3,4,5,6] (.e (.call zma (.e (.prim .item (.e (.var 1) (.e (.lit (.int 0)) .nil))) (.e (.prim .item (.e (.var 1) (.e (.lit (.int 2)) .nil))) .nil))) (.e (.prim .dict (.e (.prim .item (.e (.var 1) (.e (.lit (.int 2)) .nil))) .nil)) (.e (.lst .nil) (.e (.lit .none) .nil))))) (.cons (.par [7,8] (.e (.call ze4 (.e (.var 1) .nil)) (.e (.call zgp (.e (.var 3) (.e (.prim .len (.e (.prim .item (.e (.var 3) (.e (.lit (.int 0)) .nil))) .nil)) .nil))) .nil))) (.cons (.for (.var 9) (.range (.cons (.var 2) .nil)) (.cons (.asg (.tup [(.var 10),(.var 7)]) (.call zmU (.p 0 (.e (.call zif (.e (.var 3) (.e (.var 4) (.e (.var 1) (.e (.tup (.cons (.tup .nil) (.cons (.tup .nil) .nil))) .nil))))) .nil)))) (.cons (.asg (.var 8) (.ifx (.prim .eq (.e (.var 9) (.e (.lit (.int 0)) .nil))) (.call zgp (.e (.var 3) (.e (.prim .item (.e (.var 10) (.e (.lit (.int 0)) .nil))) .nil))) (.var 8))) (.cons (.par [5,6,4] (.e (.prim .add (.e (.var 5) (.e (.lst (.cons (.var 10) .nil)) .nil))) (.e (.var 3) (.e (.prim .dict (.e (.var 7) .nil)) .nil)))) (.cons (.asg (.var 3) (.call zma (.e (.prim .item (.e (.var 1) (.e (.lit (.int 1)) .nil))) (.e (.var 4) .nil)))) .nil))))) (.cons (.ret (.tup (.cons (.var 5) (.cons (.var 7) (.cons (.var 8) (.cons (.var 3) .nil)))))) .nil)))) }
def zlt : Def:={ params:=2,slots:=7,za1:=[],cells:=[],defaults:=[],fresh:=true,esc:=false,lent:=[],freshT:=[],body:=(.cons (.par [2,3] (.f (.lst (.cons (.tup (.cons (.call ze4 (.e (.var 0) .nil)) (.cons (.lst .nil) .nil))) .nil)) (.f (.dct (.cons (.call zkS (.e (.call ze4 (.e (.var 0) .nil)) .nil)) .nil) (.cons (.lit (.bool true)) .nil)) .nil))) (.cons (.for (.tup [(.var 4),(.var 5),(.var 6)]) (.e (.var 1)) (.cons (.ite (.prim .notin (.e (.call zkS (.e (.var 4) .nil)) (.b 3 .nil))) (.cons (.setI (.slot 3) (.call zkS (.e (.var 4) .nil)) (.lit (.bool true))) (.cons (.append (.slot 2) (.tup (.cons (.var 4) (.cons (.var 6) .nil)))) .nil)) .nil) .nil)) (.cons (.retO 2) .nil))) }
def Dl_mended : Def:={ params:=2,slots:=4,za1:=[],cells:=[],defaults:=[],fresh:=false,esc:=false,lent:=[],freshT:=[],body:=(.cons (.asg (.var 2) (.prim .dict (.e (.var 1) .nil))) (.cons (.asg (.var 3) (.call zma (.e (.prim .item (.e (.var 0) (.e (.lit (.int 1)) .nil))) (.e (.var 2) .nil)))) (.cons (.ret (.call zic (.e (.var 3) (.e (.var 2) (.e (.prim .len (.e (.prim .item (.e (.var 3) (.e (.lit (.int 0)) .nil))) .nil)) .nil))))) .nil))) }
def lam18 : Def:={ params:=1,slots:=2,za1:=[],cells:=[],caps:=1,body:=(.cons (.ret (.meth (.cvar 1) zfM (.e (.lst .nil) (.e (.var 0) .nil)) [1,2])) .nil) }
def zjp : Def:={ params:=3,slots:=5,za1:=[0],cells:=[],defaults:=[],fresh:=false,esc:=false,lent:=[],freshT:=[],body:=(.cons (.expr (.call zbW (.e (.fld (.call zbM (.e (.cvar 0) .nil)) zce) (.e (.var 1) .nil)))) (.cons (.asg (.var 3) (.prim .sorted (.e (.prim .list (.e (.prim .dict (.e (.hide (.comp (.tup (.cons (.var 4) (.cons (.lit (.bool true)) .nil))) [4] (.var 4) (.e (.var 1)) .nil)) .nil)) .nil)) .nil))) (.cons (.ret (.call zbd (.e (.var 3) (.e (.lam 18 [0]) (.e (.var 2) .nil))))) .nil))) }
def lam22 : Def:={ params:=0,slots:=2,za1:=[],cells:=[],caps:=2,body:=(.cons (.ret (.callv (.cvar 0) (.e (.cvar 1) .nil))) .nil) }
def lam23 : Def:={ params:=0,slots:=3,za1:=[],cells:=[],caps:=3,body:=(.cons (.ret (.callv (.cvar 0) (.e (.cvar 1) (.e (.cvar 2) .nil)))) .nil) }
def lam24 : Def:={ params:=0,slots:=1,za1:=[],cells:=[],caps:=1,body:=(.cons (.ret (.call zeG (.e (.cvar 0) (.e (.lst .nil) .nil)))) .nil) }
def lam25 : Def:={ params:=0,slots:=2,za1:=[],cells:=[],caps:=2,body:=(.cons (.ret (.call zcl (.e (.cvar 0) (.e (.lst .nil) (.e (.cvar 1) .nil))))) .nil) }
def Dl_results : Def:={ params:=3,slots:=6,za1:=[0,1],cells:=[],defaults:=[],fresh:=true,esc:=false,lent:=[],freshT:=[],body:=(.cons (.asg (.var 3) (.lst (.cons (.lit (.fn zc9)) (.cons (.lit (.fn zo4)) (.cons (.lit (.fn zeF)) (.cons (.lit (.fn zd7)) .nil)))))) (.cons (.setO 4 (.lcomp (.callv (.var 2) (.e (.lam 22 [5,0]) .nil)) 5 [0] (.e (.var 3)))) (.cons (.asg (.var 3) (.lst (.cons (.lit (.fn zo3)) (.cons (.lit (.fn f_some)) (.cons (.lit (.fn zlb)) .nil))))) (.cons (.setO 4 (.prim .add (.b 4 (.e (.lcomp (.callv (.var 2) (.e (.lam 23 [5,0,1]) .nil)) 5 [0,1] (.e (.var 3))) .nil)))) (.cons (.append (.slot 4) (.callv (.var 2) (.e (.lam 24 [0]) .nil))) (.cons (.ret (.prim .add (.b 4 (.e (.lst (.cons (.callv (.var 2) (.e (.lam 25 [0,1]) .nil)) .nil)) .nil)))) .nil)))))) }
def zrB : Def:={ params:=1,slots:=3,za1:=[],cells:=[],defaults:=[],fresh:=false,esc:=false,lent:=[],freshT:=[],body:=(.cons (.asg (.var 1) (.call zeC (.e (.prim .item (.e (.var 0) (.e (.lit (.int 0)) .nil))) .nil))) (.cons (.asg (.var 2) (.ifx (.call zbQ (.e (.prim .item (.e (.var 0) (.e (.lit (.int 1)) .nil))) (.e (.prim .item (.e (.var 0) (.e (.lit (.int 0)) .nil))) .nil))) (.var 1) (.call zeC (.e (.prim .item (.e (.var 0) (.e (.lit (.int 1)) .nil))) .nil)))) (.cons (.ret (.new zqi (.e (.var 1) (.e (.var 2) (.e (.prim .item (.e (.var 0) (.e (.lit (.int 2)) .nil))) (.e (.prim .item (.e (.var 0) (.e (.lit (.int 3)) .nil))) (.e (.lit (.int 2000)) .nil))))) [1,2,3,4,6])) .nil))) }
def Dl_choices : Def:={ params:=1,slots:=6,za1:=[],cells:=[],defaults:=[],fresh:=true,esc:=false,lent:=[],freshT:=[],body:=(.cons (.asg (.var 1) (.lst (.cons (.lst .nil) .nil))) (.cons (.for (.var 2) (.e (.var 0)) (.cons (.asg (.var 1) (.prim .add (.e (.var 1) (.e (.comp (.prim .add (.e (.var 3) (.e (.lst (.cons (.var 2) .nil)) .nil))) [3] (.var 3) (.e (.var 1)) .nil) .nil)))) .nil)) (.cons (.ret (.comp (.var 3) [4,3] (.tup [(.var 4),(.var 3)]) (.e (.prim .sorted (.e (.comp (.tup (.cons (.prim .len (.e (.var 5) .nil)) (.cons (.var 5) .nil))) [5] (.var 5) (.e (.var 1)) .nil) .nil))) .nil)) .nil))) }
end K
end
section
set_option maxHeartbeats 4000000
namespace K01
open K
open Fx
open PySem (Str)
abbrev zn1 : Nat:=25
abbrev ziB : Nat:=26
abbrev zry : Nat:=27
abbrev zor : Nat:=28
abbrev F_fall : Nat:=29
abbrev F_step : Nat:=30
abbrev zrx : Nat:=31
def lam59 : Def:={ params:=1,slots:=1,za1:=[],cells:=[],caps:=0,body:=(.cons (.ret (.xfld zn1 (.var 0))) .nil) }
def lam60 : Def:={ params:=1,slots:=1,za1:=[],cells:=[],caps:=0,body:=(.cons (.ret (.xfld ziB (.var 0))) .nil) }
def lam61 : Def:={ params:=1,slots:=1,za1:=[],cells:=[],caps:=0,body:=(.cons (.ret (.xfld zry (.var 0))) .nil) }
def lam62 : Def:={ params:=1,slots:=1,za1:=[],cells:=[],caps:=0,body:=(.cons (.ret (.xfld zn1 (.var 0))) .nil) }
def lam63 : Def:={ params:=1,slots:=1,za1:=[],cells:=[],caps:=0,body:=(.cons (.ret (.xfld zor (.var 0))) .nil) }
def lam64 : Def:={ params:=1,slots:=1,za1:=[],cells:=[],caps:=0,body:=(.cons (.ret (.xfld F_fall (.var 0))) .nil) }
def lam65 : Def:={ params:=1,slots:=1,za1:=[],cells:=[],caps:=0,body:=(.cons (.ret (.xfld F_step (.var 0))) .nil) }
def lam66 : Def:={ params:=1,slots:=1,za1:=[],cells:=[],caps:=0,body:=(.cons (.ret (.xfld zrx (.var 0))) .nil) }
def lam67 : Def:={ params:=1,slots:=1,za1:=[],cells:=[],caps:=0,body:=(.cons (.ret (.xfld ziB (.var 0))) .nil) }
def zfw : Def:={ params:=1,slots:=2,za1:=[],cells:=[],defaults:=[],fresh:=false,esc:=false,lent:=[0],freshT:=[],body:=(.cons (.asg (.var 1) (.call zby (.p 0 (.e (.lit (.int 5)) .nil)))) (.cons (.ret (.prim .item (.e (.lst (.cons (.prim .sub (.e (.prim .pow (.e (.lit (.int 10)) (.e (.lit (.int 11)) .nil))) (.e (.var 1) .nil))) (.cons (.lit (.str "some")) (.cons (.tup (.cons (.var 1) (.cons (.lit (.str "x")) .nil))) (.cons (.lit .none) (.cons (.tup (.cons (.tup (.cons (.lit (.int 1)) (.cons (.lit (.bool true)) .nil))) (.cons (.tup (.cons (.var 1) (.cons (.lit (.bool false)) .nil))) .nil))) (.cons (.prim .sub (.e (.lit (.int 0)) (.e (.var 1) .nil))) .nil))))))) (.e (.call zby (.p 0 (.e (.lit (.int 6)) .nil))) .nil)))) .nil)) }
def zhy : Def:={ params:=1,slots:=3,za1:=[],cells:=[],defaults:=[],fresh:=false,esc:=false,lent:=[],freshT:=[],body:=(.cons (.setO 1 (.lst (.cons (.isx zep (.var 0)) (.cons (.isx zcK (.var 0)) (.cons (.isx zdi (.var 0)) (.cons (.isx zeo (.var 0)) .nil)))))) (.cons (.extend (.slot 1) (.lst (.cons (.isx zcJ (.var 0)) (.cons (.isx zbP (.var 0)) (.cons (.isx zdN (.var 0)) (.cons (.isx zcx (.var 0)) .nil)))))) (.cons (.extend (.slot 1) (.lst (.cons (.isx zcH (.var 0)) (.cons (.isx zeV (.var 0)) (.cons (.isx zcG (.var 0)) .nil))))) (.cons (.ret (.prim .len (.e (.comp (.var 2) [2] (.var 2) (.e (.mvar 1)) (.cons (.var 2) .nil)) .nil))) .nil)))) }
def zhx : Def:={ params:=1,slots:=2,za1:=[],cells:=[],defaults:=[],fresh:=true,esc:=false,lent:=[],freshT:=[],body:=(.cons (.setO 1 (.lst (.cons (.tup (.cons (.mkx zeo zn1 (.var 0)) (.cons (.mkx zeo zn1 (.var 0)) (.cons (.lam 59 []) .nil)))) (.cons (.tup (.cons (.mkx zbP ziB (.var 0)) (.cons (.mkx zbP ziB (.var 0)) (.cons (.lam 60 []) .nil)))) .nil)))) (.cons (.extend (.slot 1) (.lst (.cons (.tup (.cons (.mkx zdi zry (.var 0)) (.cons (.mkx zdi zry (.var 0)) (.cons (.lam 61 []) .nil)))) (.cons (.tup (.cons (.mkx zeV zn1 (.var 0)) (.cons (.mkx zeV zn1 (.var 0)) (.cons (.lam 62 []) .nil)))) .nil)))) (.cons (.append (.slot 1) (.tup (.cons (.mkx zcH zor (.var 0)) (.cons (.mkx zcH zor (.var 0)) (.cons (.lam 63 []) .nil))))) (.cons (.extend (.slot 1) (.lst (.cons (.tup (.cons (.mkx zep F_fall (.var 0)) (.cons (.mkx zep F_fall (.var 0)) (.cons (.lam 64 []) .nil)))) (.cons (.tup (.cons (.mkx zcK F_step (.var 0)) (.cons (.mkx zcK F_step (.var 0)) (.cons (.lam 65 []) .nil)))) .nil)))) (.cons (.append (.slot 1) (.tup (.cons (.mkx zcJ zrx (.var 0)) (.cons (.mkx zcJ zrx (.var 0)) (.cons (.lam 66 []) .nil))))) (.cons (.append (.slot 1) (.tup (.cons (.mkx zcG ziB (.var 0)) (.cons (.mkx zcG ziB (.var 0)) (.cons (.lam 67 []) .nil))))) (.cons (.retO 1) .nil))))))) }
def zq9 : Def:={ params:=1,slots:=10,za1:=[],cells:=[],defaults:=[],fresh:=false,esc:=false,lent:=[],freshT:=[],body:=(.cons (.for (.var 1) (.range (.cons (.prim .add (.e (.lit (.int 2)) (.e (.prim .min2 (.e (.prim .len (.e (.var 0) .nil)) (.e (.lit (.int 4)) .nil))) .nil))) .nil)) (.cons (.setO 2 (.call zeD (.e (.var 0) (.e (.var 1) .nil)))) (.cons (.asg (.var 3) (.call l_object (.p 2 .nil))) (.cons (.for (.tup [(.var 4),(.var 5),(.var 6)]) (.e (.call l_pairs (.e (.var 3) .nil))) (.cons (.for (.var 7) (.e (.tup (.cons (.var 4) (.cons (.var 5) .nil)))) (.cons (.ite (.or (.not (.isx zcI (.var 7))) (.or (.not (.isx zdM (.var 7))) (.prim .ne (.e (.call znQ (.e (.var 7) .nil)) (.e (.lit (.int 1)) .nil))))) (.cons (.ret (.lit (.bool false))) .nil) .nil) (.cons (.ite (.not (.callF zbQ (.cons (.callv (.var 6) (.e (.var 7) .nil)) (.cons (.var 3) .nil)))) (.cons (.ret (.lit (.bool false))) .nil) .nil) .nil))) .nil)) .nil)))) (.cons (.par [8,9] (.e (.mkx0 zcx 0) (.e (.mkx0 zdN 0) .nil))) (.cons (.ite (.or (.isx zcI (.var 8)) (.or (.isx zdM (.var 8)) (.not (.isx zgG (.var 8))))) (.cons (.ret (.lit (.bool false))) .nil) .nil) (.cons (.ite (.or (.isx zeW (.var 8)) (.isx zdZ (.var 8))) (.cons (.ret (.lit (.bool false))) .nil) .nil) (.cons (.ret (.and (.isx zcI (.var 9)) (.and (.prim .eq (.e (.call znQ (.e (.var 9) .nil)) (.e (.lit (.int 1)) .nil))) (.prim .eq (.e (.call znQ (.e (.var 8) .nil)) (.e (.lit (.int 1)) .nil)))))) .nil))))) }
def tbl : Tbl where
 defs:=fun g=>match g with
  | 75=>some zaQ
  | 76=>some zgA
  | 78=>some zeR
  | 91=>some zfw
  | 92=>some zhy
  | 93=>some zhx
  | 90=>some zq9
  | _=>none
 lams:=fun l=>match l with
  | 59=>some lam59
  | 60=>some lam60
  | 61=>some lam61
  | 62=>some lam62
  | 63=>some lam63
  | 64=>some lam64
  | 65=>some lam65
  | 66=>some lam66
  | 67=>some lam67
  | _=>none
 meths:=fun c m=>match m with
  | _=>none
 zgq:=fun c=>match c with
  | _=>none
 excs:=exX
end K01
namespace K01
open K
open PySem PySem.Spec PyProof.Rows L2 Fx
def fnA (K : PySem.W.Frag) : Nat→Option Addr
 | _=>none
def clsA (K : PySem.W.Frag) : Nat→Option Addr
 | _=>none
def exV (K : PySem.W.Frag) : Nat→Option Addr
 | 102=>some (He.ga K "BadName")
 | 103=>some (He.ga K "BadValue")
 | 106=>some (He.ga K "NoMoment")
 | 109=>some (He.ga K "BadPlace")
 | 110=>some (He.ga K "NotTruth")
 | 104=>some (He.ga K "BadLimit")
 | 105=>some (He.ga K "NoPage")
 | 107=>some (He.ga K "BadFall")
 | 108=>some (He.ga K "BadGuard")
 | 101=>some (He.ga K "Held")
 | 111=>some (He.ga K "Beyond")
 | _=>none
def exA (K : PySem.W.Frag) : Nat→Option Value
 | 102=>some (.ref (He.ga K "BadName"))
 | 103=>some (.ref (He.ga K "BadValue"))
 | 106=>some (.ref (He.ga K "NoMoment"))
 | 109=>some (.ref (He.ga K "BadPlace"))
 | 110=>some (.ref (He.ga K "NotTruth"))
 | 104=>some (.ref (He.ga K "BadLimit"))
 | 105=>some (.ref (He.ga K "NoPage"))
 | 107=>some (.ref (He.ga K "BadFall"))
 | 108=>some (.ref (He.ga K "BadGuard"))
 | 101=>some (.ref (He.ga K "Held"))
 | 111=>some (.ref (He.ga K "Beyond"))
 | _=>none
def exF : Nat→Str
 | 102=>"name"
 | 103=>"value"
 | 106=>"moment"
 | 109=>"place"
 | 110=>"value"
 | 104=>"limit"
 | 105=>"name"
 | 107=>"fall"
 | 108=>"step"
 | _=>""
def Lx59 : Expr:=(match (defBody zaj).getD 0 (.Pass ⟨0,0,0,0⟩) with | .Assign _ (.List [.Tuple [_,_,e] _ _,_] _) _=>e | _=>.Constant .none 0 ⟨0,0,0,0⟩)
def LD59 : LamD:=znM Lx59 "_law_pairs.<locals>.<lambda>" []
def Lx60 : Expr:=(match (defBody zaj).getD 0 (.Pass ⟨0,0,0,0⟩) with | .Assign _ (.List [_,.Tuple [_,_,e] _ _] _) _=>e | _=>.Constant .none 0 ⟨0,0,0,0⟩)
def LD60 : LamD:=znM Lx60 "_law_pairs.<locals>.<lambda>" []
def Lx61 : Expr:=(match (defBody zaj).getD 1 (.Pass ⟨0,0,0,0⟩) with | .Expr (.Call _ [.List [.Tuple [_,_,e] _ _,_] _] _ _) _=>e | _=>.Constant .none 0 ⟨0,0,0,0⟩)
def LD61 : LamD:=znM Lx61 "_law_pairs.<locals>.<lambda>" []
def Lx62 : Expr:=(match (defBody zaj).getD 1 (.Pass ⟨0,0,0,0⟩) with | .Expr (.Call _ [.List [_,.Tuple [_,_,e] _ _] _] _ _) _=>e | _=>.Constant .none 0 ⟨0,0,0,0⟩)
def LD62 : LamD:=znM Lx62 "_law_pairs.<locals>.<lambda>" []
def Lx63 : Expr:=(match (defBody zaj).getD 2 (.Pass ⟨0,0,0,0⟩) with | .Expr (.Call _ [.Tuple [_,_,e] _ _] _ _) _=>e | _=>.Constant .none 0 ⟨0,0,0,0⟩)
def LD63 : LamD:=znM Lx63 "_law_pairs.<locals>.<lambda>" []
def Lx64 : Expr:=(match (defBody zaj).getD 3 (.Pass ⟨0,0,0,0⟩) with | .Expr (.Call _ [.List [.Tuple [_,_,e] _ _,_] _] _ _) _=>e | _=>.Constant .none 0 ⟨0,0,0,0⟩)
def LD64 : LamD:=znM Lx64 "_law_pairs.<locals>.<lambda>" []
def Lx65 : Expr:=(match (defBody zaj).getD 3 (.Pass ⟨0,0,0,0⟩) with | .Expr (.Call _ [.List [_,.Tuple [_,_,e] _ _] _] _ _) _=>e | _=>.Constant .none 0 ⟨0,0,0,0⟩)
def LD65 : LamD:=znM Lx65 "_law_pairs.<locals>.<lambda>" []
def Lx66 : Expr:=(match (defBody zaj).getD 4 (.Pass ⟨0,0,0,0⟩) with | .Expr (.Call _ [.Tuple [_,_,e] _ _] _ _) _=>e | _=>.Constant .none 0 ⟨0,0,0,0⟩)
def LD66 : LamD:=znM Lx66 "_law_pairs.<locals>.<lambda>" []
def Lx67 : Expr:=(match (defBody zaj).getD 5 (.Pass ⟨0,0,0,0⟩) with | .Expr (.Call _ [.Tuple [_,_,e] _ _] _ _) _=>e | _=>.Constant .none 0 ⟨0,0,0,0⟩)
def LD67 : LamD:=znM Lx67 "_law_pairs.<locals>.<lambda>" []
def lamO : Nat→Option (Addr→List Addr→Addr→HO)
 | 59=>some (zdl LD59)
 | 60=>some (zdl LD60)
 | 61=>some (zdl LD61)
 | 62=>some (zdl LD62)
 | 63=>some (zdl LD63)
 | 64=>some (zdl LD64)
 | 65=>some (zdl LD65)
 | 66=>some (zdl LD66)
 | 67=>some (zdl LD67)
 | _=>none
def lamQ : Nat→Str
 | 59=>LD59.qual
 | 60=>LD60.qual
 | 61=>LD61.qual
 | 62=>LD62.qual
 | 63=>LD63.qual
 | 64=>LD64.qual
 | 65=>LD65.qual
 | 66=>LD66.qual
 | 67=>LD67.qual
 | _=>""
def tabAt (K : PySem.W.Frag) (x : Str) : Addr:=(He.cT K (x,none)).2
def nmL : Nat→Nat→Str:=fun l _=>if l = 82 then "_law_pairs.<locals>.<lambda>" else if l = 82 then "_law_pairs.<locals>.<lambda>" else if l = 83 then "_law_pairs.<locals>.<lambda>" else if l = 83 then "_law_pairs.<locals>.<lambda>" else if l = 84 then "_law_pairs.<locals>.<lambda>" else if l = 85 then "_law_pairs.<locals>.<lambda>" else if l = 85 then "_law_pairs.<locals>.<lambda>" else if l = 86 then "_law_pairs.<locals>.<lambda>" else if l = 87 then "_law_pairs.<locals>.<lambda>" else ""
def tabN (K : PySem.W.Frag) (a : Addr) : Option (Nat→Nat→Str):=if a=tabAt K "_law_pairs" then some nmL else none
theorem zlF {K : PySem.W.Frag} : tabN K (He.cT K ("_law_pairs",none)).2=some nmL:=by
 show tabN K (tabAt K "_law_pairs")=some nmL
 unfold tabN
 rw [if_pos rfl]
def T0 (K : PySem.W.Frag) : Tb:=⟨fnA K,clsA K,nmAt nms,lamO,lamQ,tabN K,fun _ _ _ _ _ _=>False,⟨fun _=>none,fun _=>none,none,none⟩,exV K⟩
def Tk (P : Program) (w : World) (K : PySem.W.Frag) : Tb:={ T0 K with ExR:=exR (gOf P w K (T0 K)) (exA K) exF }
structure HF (K : PySem.W.Frag) (mg : Str→Option Value) : Prop where
 zqP : mg "Exception" = none
 znz : mg "LookupError" = none
 zlR : mg "RuntimeError" = none
 ziN : mg "ValueError" = none
 n_all : mg "all" = none
 n_bool : mg "bool" = none
 zqO : mg "int" = none
 za4 : mg "isinstance" = none
 n_len : mg "len" = none
 n_list : mg "list" = none
 n_min : mg "min" = none
 n_range : mg "range" = none
 zbv : mg "super" = none
 zny : mg "tuple" = none
 n_zip : mg "zip" = none
 znX : mg "_law_source" = some (.ref (He.ga K "_law_source"))
 zl3 : mg "_law_draw" = some (.ref (He.ga K "_law_draw"))
 zl2 : mg "_law_same" = some (.ref (He.ga K "_law_same"))
 znY : mg "_law_object" = some (.ref (He.ga K "_law_object"))
 zfi : mg "_law_kinds" = some (.ref (He.ga K "_law_kinds"))
 zpK : mg "_law_pairs" = some (.ref (He.ga K "_law_pairs"))
 g_law : mg "law" = some (.ref (He.ga K "law"))
 zl4 : mg "BadName" = some (.ref (He.ga K "BadName"))
 zio : mg "BadValue" = some (.ref (He.ga K "BadValue"))
 zim : mg "NoMoment" = some (.ref (He.ga K "NoMoment"))
 ziq : mg "BadPlace" = some (.ref (He.ga K "BadPlace"))
 zil : mg "NotTruth" = some (.ref (He.ga K "NotTruth"))
 zir : mg "BadLimit" = some (.ref (He.ga K "BadLimit"))
 znZ : mg "NoPage" = some (.ref (He.ga K "NoPage"))
 zl5 : mg "BadFall" = some (.ref (He.ga K "BadFall"))
 zis : mg "BadGuard" = some (.ref (He.ga K "BadGuard"))
 g_Held : mg "Held" = some (.ref (He.ga K "Held"))
 g_Beyond : mg "Beyond" = some (.ref (He.ga K "Beyond"))
 zeS : FunD K "_law_source" "_law_source" (defArgs zbJ) (defBody zbJ) (defScope zbJ) [] [] (He.ga K "_law_source") (fdOf K (He.ga K "_law_source"))
 zgF : FunD K "_law_draw" "_law_draw" (defArgs zcA) (defBody zcA) (defScope zcA) [] [] (He.ga K "_law_draw") (fdOf K (He.ga K "_law_draw"))
 zgE : FunD K "_law_same" "_law_same" (defArgs zcz) (defBody zcz) (defScope zcz) [] [] (He.ga K "_law_same") (fdOf K (He.ga K "_law_same"))
 zeT : FunD K "_law_object" "_law_object" (defArgs zbK) (defBody zbK) (defScope zbK) [] [] (He.ga K "_law_object") (fdOf K (He.ga K "_law_object"))
 zfA : FunD K "_law_kinds" "_law_kinds" (defArgs zc8) (defBody zc8) (defScope zc8) [] [] (He.ga K "_law_kinds") (fdOf K (He.ga K "_law_kinds"))
 zfz : FunD K "_law_pairs" "_law_pairs" (defArgs zaj) (defBody zaj) (defScope zaj) [] [] (He.ga K "_law_pairs") (fdOf K (He.ga K "_law_pairs"))
 D_law : FunD K "law" "law" (defArgs s_law) (defBody s_law) (defScope s_law) [] [] (He.ga K "law") (fdOf K (He.ga K "law"))
 zmr : Xi.XiF zdP K (He.ga K "BadName") "name"
 zjM : Xi.XiF zdP K (He.ga K "BadValue") "value"
 zjL : Xi.XiF zdP K (He.ga K "NoMoment") "moment"
 zjN : Xi.XiF zdP K (He.ga K "BadPlace") "place"
 zjK : Xi.XiF zdP K (He.ga K "NotTruth") "value"
 zjO : Xi.XiF zdP K (He.ga K "BadLimit") "limit"
 zoF : Xi.XiF zdP K (He.ga K "NoPage") "name"
 zms : Xi.XiF zdP K (He.ga K "BadFall") "fall"
 zjP : Xi.XiF zdP K (He.ga K "BadGuard") "step"
 e_Held : PySem.W.excIn K (He.ga K "Held") [.type "Exception",.type "BaseException",.type "object"] "Exception.__new__" = true
 k_Held : PySem.W.keepIn K (.ref (He.ga K "Held"))=true
 u_Held : PySem.W.subIn K (.ref (He.ga K "Held")) (.type "BaseException")=some true
 t_Held : PySem.W.typeIn K (.ref (He.ga K "Held"))=some (.type "type")
 e_Beyond : PySem.W.excIn K (He.ga K "Beyond") He.veBase "ValueError.__new__" = true
 k_Beyond : PySem.W.keepIn K (.ref (He.ga K "Beyond"))=true
 u_Beyond : PySem.W.subIn K (.ref (He.ga K "Beyond")) (.type "BaseException")=some true
 t_Beyond : PySem.W.typeIn K (.ref (He.ga K "Beyond"))=some (.type "type")
 zgr : mg "FallError" = some (.ref (He.ga K "FallError"))
 xn_BadName : Xi.xnB K (He.ga K "BadName") "name" = true
 zqm : Xi.xnB K (He.ga K "BadValue") "value" = true
 zql : Xi.xnB K (He.ga K "NoMoment") "moment" = true
 zqn : Xi.xnB K (He.ga K "BadPlace") "place" = true
 zqk : Xi.xnB K (He.ga K "NotTruth") "value" = true
 zqo : Xi.xnB K (He.ga K "BadLimit") "limit" = true
 xn_NoPage : Xi.xnB K (He.ga K "NoPage") "name" = true
 xn_BadFall : Xi.xnB K (He.ga K "BadFall") "fall" = true
 zqp : Xi.xnB K (He.ga K "BadGuard") "step" = true
 ev : excvB K (exvL K)=true
 ki_BadFall : isxB K exX 107 (.ref (He.ga K "BadFall")) (exvL K)=true
 zrg : isxB K exX 108 (.ref (He.ga K "BadGuard")) (exvL K)=true
 zrf : isxB K exX 104 (.ref (He.ga K "BadLimit")) (exvL K)=true
 ki_BadName : isxB K exX 102 (.ref (He.ga K "BadName")) (exvL K)=true
 zre : isxB K exX 109 (.ref (He.ga K "BadPlace")) (exvL K)=true
 zrd : isxB K exX 103 (.ref (He.ga K "BadValue")) (exvL K)=true
 ki_Beyond : isxB K exX 111 (.ref (He.ga K "Beyond")) (exvL K)=true
 ki_Held : isxB K exX 101 (.ref (He.ga K "Held")) (exvL K)=true
 zrc : isxB K exX 106 (.ref (He.ga K "NoMoment")) (exvL K)=true
 ki_NoPage : isxB K exX 105 (.ref (He.ga K "NoPage")) (exvL K)=true
 zrb : isxB K exX 110 (.ref (He.ga K "NotTruth")) (exvL K)=true
 zpz : isxB K exX 100 (.ref (He.ga K "FallError")) (exvL K)=true
 znS : isxB K exX 116 (.type "ValueError") (exvL K)=true
 zmb : isxB K exX 114 (.type "LookupError") (exvL K)=true
 zkU : isxB K exX 115 (.type "RuntimeError") (exvL K)=true
 zpA : isxB K exX 112 (.type "Exception") (exvL K)=true
 nf_name : xfnB K "name" (exvL K)=true
 nf_value : xfnB K "value" (exvL K)=true
 nf_moment : xfnB K "moment" (exvL K)=true
 nf_place : xfnB K "place" (exvL K)=true
 nf_limit : xfnB K "limit" (exvL K)=true
 nf_fall : xfnB K "fall" (exvL K)=true
 nf_step : xfnB K "step" (exvL K)=true
section
variable {P : Program} {w : World} {K : PySem.W.Frag} {mg : Str→Option Value} {base : Heap}
theorem HF.k__law_source (c : HF K mg) : PySem.W.keepIn K (.ref (He.ga K "_law_source"))=true:=c.zeS.kp
theorem HF.B__law_source (c : HF K mg) : Bnd K (fdOf K (He.ga K "_law_source")) ["_law_script","_law_at"] 2 [] id:=zrq c.zeS fun _ _ _ _ _ _ us hl=>match us,hl with | [_,_],_=>rfl
theorem HF.k__law_draw (c : HF K mg) : PySem.W.keepIn K (.ref (He.ga K "_law_draw"))=true:=c.zgF.kp
theorem HF.B__law_draw (c : HF K mg) : Bnd K (fdOf K (He.ga K "_law_draw")) ["_law_draws","_law_many"] 2 [] id:=zrq c.zgF fun _ _ _ _ _ _ us hl=>match us,hl with | [_,_],_=>rfl
theorem HF.k__law_same (c : HF K mg) : PySem.W.keepIn K (.ref (He.ga K "_law_same"))=true:=c.zgE.kp
theorem HF.B__law_same (c : HF K mg) : Bnd K (fdOf K (He.ga K "_law_same")) ["_law_found","_law_due"] 2 [] id:=zrq c.zgE fun _ _ _ _ _ _ us hl=>match us,hl with | [_,_],_=>rfl
theorem HF.k__law_object (c : HF K mg) : PySem.W.keepIn K (.ref (He.ga K "_law_object"))=true:=c.zeT.kp
theorem HF.B__law_object (c : HF K mg) : Bnd K (fdOf K (He.ga K "_law_object")) ["_law_draws"] 1 [] id:=zrq c.zeT fun _ _ _ _ _ _ us hl=>match us,hl with | [_],_=>rfl
theorem HF.k__law_kinds (c : HF K mg) : PySem.W.keepIn K (.ref (He.ga K "_law_kinds"))=true:=c.zfA.kp
theorem HF.B__law_kinds (c : HF K mg) : Bnd K (fdOf K (He.ga K "_law_kinds")) ["_law_e"] 1 [] id:=zrq c.zfA fun _ _ _ _ _ _ us hl=>match us,hl with | [_],_=>rfl
theorem HF.k__law_pairs (c : HF K mg) : PySem.W.keepIn K (.ref (He.ga K "_law_pairs"))=true:=c.zfz.kp
theorem HF.B__law_pairs (c : HF K mg) : Bnd K (fdOf K (He.ga K "_law_pairs")) ["_law_a"] 1 [] id:=zrq c.zfz fun _ _ _ _ _ _ us hl=>match us,hl with | [_],_=>rfl
theorem HF.B_law (c : HF K mg) : Bnd K (fdOf K (He.ga K "law")) ["_law_script"] 1 [] id:=zrq c.D_law fun _ _ _ _ _ _ us hl=>match us,hl with | [_],_=>rfl
theorem HF.b_Held (c : HF K mg) : ExcBaseFacts "Exception" "Exception.__new__" "Exception.__init__" [.type "Exception",.type "BaseException",.type "object"]:=PySem.F.excBase_Exception
theorem HF.b_Beyond (c : HF K mg) : ExcBaseFacts "ValueError" "ValueError.__new__" "ValueError.__init__" He.veBase:=PySem.F.excBase_ValueError
theorem tok (c : HF K mg) : TOk K (Tk P w K):=by
 refine ⟨fun i C e=>?_,fun i C f e=>?_,fun f g e n=>?_⟩
 ·change clsA K i=some C at e
  unfold clsA at e
  split at e
  ·cases e
 ·change clsA K i=some C at e
  unfold clsA at e
  split at e
  ·cases e
 ·have hg : g < nms.length:=Nat.lt_of_not_le fun z=>n (by rw [e]; exact nm_out z)
  exact nm_inj (by decide +kernel) (by decide +kernel) hg f e
theorem exvl {K : PySem.W.Frag} : ∀ cc CA,exV K cc=some CA→(cc,CA)∈exvL K:=by
 intro cc CA e
 unfold exV at e
 split at e
 all_goals first | (cases e; done) | (cases e; simp [exvL])
theorem zbb {K : PySem.W.Frag} {mg : Str→Option Value} {T : Tb} (c : HF K mg) (e : T.exV=exV K:=by rfl) : ExvOk T K:=exvOk_of (by rw [e]; exact exvl) c.ev
theorem zri {K : PySem.W.Frag} {mg : Str→Option Value} {T : Tb} (c : HF K mg) (e : T.exV=exV K:=by rfl) : ∀ cc CA,T.exV cc=some CA→PySem.W.kitOne K (.ref CA) (.ref (He.ga K "BadFall"))=some (tbl.excs cc zep):=zd3 (ex:=exX) (by rw [e]; exact exvl) c.ki_BadFall
theorem zpG {K : PySem.W.Frag} {mg : Str→Option Value} {T : Tb} (c : HF K mg) (e : T.exV=exV K:=by rfl) : ∀ cc CA,T.exV cc=some CA→PySem.W.kitOne K (.ref CA) (.ref (He.ga K "BadGuard"))=some (tbl.excs cc zcK):=zd3 (ex:=exX) (by rw [e]; exact exvl) c.zrg
theorem zpF {K : PySem.W.Frag} {mg : Str→Option Value} {T : Tb} (c : HF K mg) (e : T.exV=exV K:=by rfl) : ∀ cc CA,T.exV cc=some CA→PySem.W.kitOne K (.ref CA) (.ref (He.ga K "BadLimit"))=some (tbl.excs cc zdi):=zd3 (ex:=exX) (by rw [e]; exact exvl) c.zrf
theorem zrh {K : PySem.W.Frag} {mg : Str→Option Value} {T : Tb} (c : HF K mg) (e : T.exV=exV K:=by rfl) : ∀ cc CA,T.exV cc=some CA→PySem.W.kitOne K (.ref CA) (.ref (He.ga K "BadName"))=some (tbl.excs cc zeo):=zd3 (ex:=exX) (by rw [e]; exact exvl) c.ki_BadName
theorem zpE {K : PySem.W.Frag} {mg : Str→Option Value} {T : Tb} (c : HF K mg) (e : T.exV=exV K:=by rfl) : ∀ cc CA,T.exV cc=some CA→PySem.W.kitOne K (.ref CA) (.ref (He.ga K "BadPlace"))=some (tbl.excs cc zcJ):=zd3 (ex:=exX) (by rw [e]; exact exvl) c.zre
theorem zpD {K : PySem.W.Frag} {mg : Str→Option Value} {T : Tb} (c : HF K mg) (e : T.exV=exV K:=by rfl) : ∀ cc CA,T.exV cc=some CA→PySem.W.kitOne K (.ref CA) (.ref (He.ga K "BadValue"))=some (tbl.excs cc zbP):=zd3 (ex:=exX) (by rw [e]; exact exvl) c.zrd
theorem isx_Beyond {K : PySem.W.Frag} {mg : Str→Option Value} {T : Tb} (c : HF K mg) (e : T.exV=exV K:=by rfl) : ∀ cc CA,T.exV cc=some CA→PySem.W.kitOne K (.ref CA) (.ref (He.ga K "Beyond"))=some (tbl.excs cc zdN):=zd3 (ex:=exX) (by rw [e]; exact exvl) c.ki_Beyond
theorem isx_Held {K : PySem.W.Frag} {mg : Str→Option Value} {T : Tb} (c : HF K mg) (e : T.exV=exV K:=by rfl) : ∀ cc CA,T.exV cc=some CA→PySem.W.kitOne K (.ref CA) (.ref (He.ga K "Held"))=some (tbl.excs cc zcx):=zd3 (ex:=exX) (by rw [e]; exact exvl) c.ki_Held
theorem zpC {K : PySem.W.Frag} {mg : Str→Option Value} {T : Tb} (c : HF K mg) (e : T.exV=exV K:=by rfl) : ∀ cc CA,T.exV cc=some CA→PySem.W.kitOne K (.ref CA) (.ref (He.ga K "NoMoment"))=some (tbl.excs cc zcH):=zd3 (ex:=exX) (by rw [e]; exact exvl) c.zrc
theorem isx_NoPage {K : PySem.W.Frag} {mg : Str→Option Value} {T : Tb} (c : HF K mg) (e : T.exV=exV K:=by rfl) : ∀ cc CA,T.exV cc=some CA→PySem.W.kitOne K (.ref CA) (.ref (He.ga K "NoPage"))=some (tbl.excs cc zeV):=zd3 (ex:=exX) (by rw [e]; exact exvl) c.ki_NoPage
theorem zpB {K : PySem.W.Frag} {mg : Str→Option Value} {T : Tb} (c : HF K mg) (e : T.exV=exV K:=by rfl) : ∀ cc CA,T.exV cc=some CA→PySem.W.kitOne K (.ref CA) (.ref (He.ga K "NotTruth"))=some (tbl.excs cc zcG):=zd3 (ex:=exX) (by rw [e]; exact exvl) c.zrb
theorem zeE {K : PySem.W.Frag} {mg : Str→Option Value} {T : Tb} (c : HF K mg) (e : T.exV=exV K:=by rfl) : ∀ cc CA,T.exV cc=some CA→PySem.W.kitOne K (.ref CA) (.ref (He.ga K "FallError"))=some (tbl.excs cc zcI):=zd3 (ex:=exX) (by rw [e]; exact exvl) c.zpz
theorem zg8 {K : PySem.W.Frag} {mg : Str→Option Value} {T : Tb} (c : HF K mg) (e : T.exV=exV K:=by rfl) : ∀ cc CA,T.exV cc=some CA→PySem.W.kitOne K (.ref CA) (.type "ValueError")=some (tbl.excs cc zdM):=zd3 (ex:=exX) (by rw [e]; exact exvl) c.znS
theorem zkW {K : PySem.W.Frag} {mg : Str→Option Value} {T : Tb} (c : HF K mg) (e : T.exV=exV K:=by rfl) : ∀ cc CA,T.exV cc=some CA→PySem.W.kitOne K (.ref CA) (.type "LookupError")=some (tbl.excs cc zeW):=zd3 (ex:=exX) (by rw [e]; exact exvl) c.zmb
theorem zjn {K : PySem.W.Frag} {mg : Str→Option Value} {T : Tb} (c : HF K mg) (e : T.exV=exV K:=by rfl) : ∀ cc CA,T.exV cc=some CA→PySem.W.kitOne K (.ref CA) (.type "RuntimeError")=some (tbl.excs cc zdZ):=zd3 (ex:=exX) (by rw [e]; exact exvl) c.zkU
theorem znT {K : PySem.W.Frag} {mg : Str→Option Value} {T : Tb} (c : HF K mg) (e : T.exV=exV K:=by rfl) : ∀ cc CA,T.exV cc=some CA→PySem.W.kitOne K (.ref CA) (.type "Exception")=some (tbl.excs cc zgG):=zd3 (ex:=exX) (by rw [e]; exact exvl) c.zpA
theorem xf_name {K : PySem.W.Frag} {mg : Str→Option Value} {T : Tb} (c : HF K mg) (e : T.exV=exV K:=by rfl) : ∀ cc CA,T.exV cc=some CA→PySem.W.findIn K (.ref CA) "name" = some none:=zqq (by rw [e]; exact exvl) c.nf_name
theorem xf_value {K : PySem.W.Frag} {mg : Str→Option Value} {T : Tb} (c : HF K mg) (e : T.exV=exV K:=by rfl) : ∀ cc CA,T.exV cc=some CA→PySem.W.findIn K (.ref CA) "value" = some none:=zqq (by rw [e]; exact exvl) c.nf_value
theorem xf_moment {K : PySem.W.Frag} {mg : Str→Option Value} {T : Tb} (c : HF K mg) (e : T.exV=exV K:=by rfl) : ∀ cc CA,T.exV cc=some CA→PySem.W.findIn K (.ref CA) "moment" = some none:=zqq (by rw [e]; exact exvl) c.nf_moment
theorem xf_place {K : PySem.W.Frag} {mg : Str→Option Value} {T : Tb} (c : HF K mg) (e : T.exV=exV K:=by rfl) : ∀ cc CA,T.exV cc=some CA→PySem.W.findIn K (.ref CA) "place" = some none:=zqq (by rw [e]; exact exvl) c.nf_place
theorem xf_limit {K : PySem.W.Frag} {mg : Str→Option Value} {T : Tb} (c : HF K mg) (e : T.exV=exV K:=by rfl) : ∀ cc CA,T.exV cc=some CA→PySem.W.findIn K (.ref CA) "limit" = some none:=zqq (by rw [e]; exact exvl) c.nf_limit
theorem xf_fall {K : PySem.W.Frag} {mg : Str→Option Value} {T : Tb} (c : HF K mg) (e : T.exV=exV K:=by rfl) : ∀ cc CA,T.exV cc=some CA→PySem.W.findIn K (.ref CA) "fall" = some none:=zqq (by rw [e]; exact exvl) c.nf_fall
theorem xf_step {K : PySem.W.Frag} {mg : Str→Option Value} {T : Tb} (c : HF K mg) (e : T.exV=exV K:=by rfl) : ∀ cc CA,T.exV cc=some CA→PySem.W.findIn K (.ref CA) "step" = some none:=zqq (by rw [e]; exact exvl) c.nf_step
theorem hnf {m : Str} (h1 : m ∉ nms) (h2 : m≠"") : ∀ f,nmAt nms f≠m:=nm_ne h1 h2
variable (P w K mg base) in
structure Lv (n k : Nat) : Prop where
 px : Xi.PxOk zdP P
 zos : Fk P w K mg base (Tk P w K) tbl n k 75 (He.ga K "_law_source") ["_law_script","_law_at"] zaQ
 zls : Fk P w K mg base (Tk P w K) tbl n k 76 (He.ga K "_law_draw") ["_law_draws","_law_many"] zgA
 zlr : Fk P w K mg base (Tk P w K) tbl n k 78 (He.ga K "_law_same") ["_law_found","_law_due"] zeR
 zot : Fk P w K mg base (Tk P w K) tbl n k 91 (He.ga K "_law_object") ["_law_draws"] zfw
 zfv : Fk P w K mg base (Tk P w K) tbl n k 92 (He.ga K "_law_kinds") ["_law_e"] zhy
 zq7 : Fk P w K mg base (Tk P w K) tbl n k 93 (He.ga K "_law_pairs") ["_law_a"] zhx
 F_law : Fk P w K mg base (Tk P w K) tbl n k 90 (He.ga K "law") ["_law_script"] zq9
 fns : ∀ X : Cx,X.prog=P→X.w=w→X.K=K→X.mg=mg→X.base=base→∀ m,FnsOk X (Tk P w K) tbl (call tbl n) k m
variable (K mg base) in
structure HB : Prop where
 zoh : LamX.TabB base mg (He.cT K ("_law_pairs",none)).1 (He.cT K ("_law_pairs",none)).2
variable {n k : Nat}
end
end K01
end
section
set_option maxHeartbeats 4000000
namespace K01
open K
open PySem PySem.Spec PyProof.Rows L2 Fx
theorem zoe {P : Program} {w : World} {K : PySem.W.Frag} {mg : Str→Option Value} {base : Heap} {n k : Nat} (c : HF K mg) (L : Lv P w K mg base n k) : Fk P w K mg base (Tk P w K) tbl (n + 1) (k + 2) 75 (He.ga K "_law_source") ["_law_script","_law_at"] zaQ:=by
 have ok : ExOk (Tk P w K):=zd4 (G:=gOf P w K (T0 K)) rfl
 have tok : TOk K (Tk P w K):=tok c
 have hnd : (["_law_script","_law_at","_law_cell"] : List Str).Nodup:=by decide +kernel
 have hcc : ∀ i,(Tk P w K).cm.c i=none:=fun _=>rfl
 refine fn_D (k:=k + 1) (N:=["_law_script","_law_at","_law_cell"]) ok ⟨fun _=>rfl,rfl⟩ c.zeS ⟨rfl,rfl,rfl,hnd,rfl,by decide +kernel,by decide +kernel⟩ rfl rfl rfl rfl rfl rfl ?_
 intro cdv A outer s H E En hrm1 hfr hle
 have hrm:=hrm1.mono (Nat.le_succ k)
 have hu:=zbS hrm1
 exact (za7 (ss_asg (se_if (zmv (o1:=(.e _)) (o2:=(.e _)) cb_lt prim_lt (zaY (za3 rfl (.inl rfl) rfl rfl)) (zaY (zfB (o:=(.e _)) zgR rfl c.n_len boot_len (zaY (za3 rfl (.inl rfl) rfl rfl)) (by decide))) rfl) (zdO (o1:=(.e _)) (o2:=(.e _)) (hu_1 hu) (zaY (za3 rfl (.inl rfl) rfl rfl)) (zaY (za3 rfl (.inl rfl) rfl rfl)) (by (intro _ _; rfl))) (zch (o1:=(.e _)) (o2:=(.e _)) zfD (zaY (zch (o1:=(.e _)) (o2:=(.e _)) znc (zaY (zaa rfl)) (zaY (za3 rfl (.inl rfl) rfl rfl)))) (zaY (zaa rfl)))) (zeX hnd rfl (.inl rfl) (.inl rfl)) (by (rw [hle]; decide))) (za7 (ss_retF hfr (ziH (za2 (se_if (zmv (o1:=(.e _)) (o2:=(.e _)) cb_ge prim_ge (zaY (za3 rfl (.inl rfl) rfl rfl)) (zaY (zch (o1:=(.e _)) (o2:=(.e _)) prim_pow (zaY (zaa rfl)) (zaY (zaa rfl)))) rfl) (za3 rfl (.inl rfl) rfl rfl) (zaa rfl)) (za2 (zch (o1:=(.e _)) (o2:=(.e _)) zjz (zaY (zgL (o:=(.e _)) zfC rfl c.zqO boot_int (zaY (za3 rfl (.inl rfl) rfl rfl)) (by decide))) (zaY (zaa rfl))) (za2 (zaa rfl) zao))))) zaI))
theorem zrt {P : Program} {w : World} {K : PySem.W.Frag} {mg : Str→Option Value} {base : Heap} {n k : Nat} (c : HF K mg) (L : Lv P w K mg base n k) : Fk P w K mg base (Tk P w K) tbl (n + 1) (k + 2) 76 (He.ga K "_law_draw") ["_law_draws","_law_many"] zgA:=by
 have ok : ExOk (Tk P w K):=zd4 (G:=gOf P w K (T0 K)) rfl
 have tok : TOk K (Tk P w K):=tok c
 have hnd : (["_law_draws","_law_many","_law_found"] : List Str).Nodup:=by decide +kernel
 have hcc : ∀ i,(Tk P w K).cm.c i=none:=fun _=>rfl
 refine fn_D (k:=k + 1) (N:=["_law_draws","_law_many","_law_found"]) ok ⟨fun _=>rfl,rfl⟩ c.zgF ⟨rfl,rfl,rfl,hnd,rfl,by decide +kernel,by decide +kernel⟩ rfl rfl rfl rfl rfl rfl ?_
 intro cdv A outer s H E En hrm1 hfr hle
 have hrm:=hrm1.mono (Nat.le_succ k)
 have hu:=zbS hrm1
 exact (za7 (zoL (zmv (o1:=(.e _)) (o2:=(.e _)) cb_gt prim_gt (zaY (zdO (o1:=(.b _)) (o2:=(.e _)) (hu_1 hu) (zoE rfl (.inl rfl) rfl rfl) (zaY (zaa rfl)) (by (intro _ _; rfl)))) (zaY (zaa rfl)) rfl) (za7 (ss_asg (zch (o1:=(.e _)) (o2:=(.e _)) zjz (zaY (zgL (o:=(.e _)) zfC rfl c.zqO boot_int (zaY (zdO (o1:=(.b _)) (o2:=(.e _)) (hu_1 hu) (zoE rfl (.inl rfl) rfl rfl) (zaY (zaa rfl)) (by (intro _ _; rfl)))) (by decide))) (zaY (za3 rfl (.inl rfl) rfl rfl))) (zeX hnd rfl (.inl rfl) (.inl rfl)) (by (rw [hle]; decide))) (za7 (zqv (hu_1 hu) (zoE rfl (.inl rfl) rfl rfl) (zaa rfl) (zch (o1:=(.e _)) (o2:=(.e _)) zp0 (zaY (zdO (o1:=(.b _)) (o2:=(.e _)) (hu_1 hu) (zoE rfl (.inl rfl) rfl rfl) (zaY (zaa rfl)) (by (intro _ _; rfl)))) (zaY (za3 rfl (.inl rfl) rfl rfl))) (by (intro _; rfl))) (za7 (ze2 hfr (za3 rfl (.inl rfl) rfl rfl)) zaI))) zaI) (za7 (zqv (hu_1 hu) (zoE rfl (.inl rfl) rfl rfl) (zaa rfl) (zch (o1:=(.e _)) (o2:=(.e _)) zfD (zaY (zdO (o1:=(.b _)) (o2:=(.e _)) (hu_1 hu) (zoE rfl (.inl rfl) rfl rfl) (zaY (zaa rfl)) (by (intro _ _; rfl)))) (zaY (zaa rfl))) (by (intro _; rfl))) (za7 (zqv (hu_1 hu) (zoE rfl (.inl rfl) rfl rfl) (zaa rfl) (zch (o1:=(.e _)) (o2:=(.e _)) zjz (zaY (zgL (o:=(.e _)) zfC rfl c.zqO boot_int (zaY (zch (o1:=(.e _)) (o2:=(.e _)) zfD (zaY (zch (o1:=(.e _)) (o2:=(.e _)) zfD (zaY (zch (o1:=(.e _)) (o2:=(.e _)) znc (zaY (zdO (o1:=(.b _)) (o2:=(.e _)) (hu_1 hu) (zoE rfl (.inl rfl) rfl rfl) (zaY (zaa rfl)) (by (intro _ _; rfl)))) (zaY (zaa rfl)))) (zaY (zch (o1:=(.e _)) (o2:=(.e _)) znc (zaY (zdO (o1:=(.b _)) (o2:=(.e _)) (hu_1 hu) (zoE rfl (.inl rfl) rfl rfl) (zaY (zaa rfl)) (by (intro _ _; rfl)))) (zaY (zaa rfl)))))) (zaY (zaa rfl)))) (by decide))) (zaY (zaa rfl))) (by (intro _; rfl))) (za7 (ze2 hfr (zch (o1:=(.e _)) (o2:=(.e _)) zjz (zaY (zgL (o:=(.e _)) zfC rfl c.zqO boot_int (zaY (zch (o1:=(.e _)) (o2:=(.e _)) zfD (zaY (zch (o1:=(.e _)) (o2:=(.e _)) zp0 (zaY (zdO (o1:=(.b _)) (o2:=(.e _)) (hu_1 hu) (zoE rfl (.inl rfl) rfl rfl) (zaY (zaa rfl)) (by (intro _ _; rfl)))) (zaY (zaa rfl)))) (zaY (zdO (o1:=(.b _)) (o2:=(.e _)) (hu_1 hu) (zoE rfl (.inl rfl) rfl rfl) (zaY (zaa rfl)) (by (intro _ _; rfl)))))) (by decide))) (zaY (za3 rfl (.inl rfl) rfl rfl)))) zaI))))
theorem zrs {P : Program} {w : World} {K : PySem.W.Frag} {mg : Str→Option Value} {base : Heap} {n k : Nat} (c : HF K mg) (L : Lv P w K mg base n k) : Fk P w K mg base (Tk P w K) tbl (n + 1) (k + 2) 78 (He.ga K "_law_same") ["_law_found","_law_due"] zeR:=by
 have ok : ExOk (Tk P w K):=zd4 (G:=gOf P w K (T0 K)) rfl
 have tok : TOk K (Tk P w K):=tok c
 have hnd : (["_law_found","_law_due","_law_one","_law_other"] : List Str).Nodup:=by decide +kernel
 have hcc : ∀ i,(Tk P w K).cm.c i=none:=fun _=>rfl
 refine fn_D (k:=k + 1) (N:=["_law_found","_law_due","_law_one","_law_other"]) ok ⟨fun _=>rfl,rfl⟩ c.zgE ⟨rfl,rfl,rfl,hnd,rfl,by decide +kernel,by decide +kernel⟩ rfl rfl rfl rfl rfl rfl ?_
 intro cdv A outer s H E En hrm1 hfr hle
 have hrm:=hrm1.mono (Nat.le_succ k)
 have hu:=zbS hrm1
 exact (za7 (zoL (zf6 (zqw (o:=(.e _)) rfl c.za4 (zaY (za3 rfl (.inl rfl) rfl rfl)) (.cons rfl c.n_list rfl (by decide) (by decide) rfl (.cons rfl c.zny rfl (by decide) (by decide) rfl .nil)) (by decide)) (by (intro _; rfl))) (za7 (zoL (st_w (sw_or (zmv (o1:=(.e _)) (o2:=(.e _)) cb_ne (zqB (znW hu)) (zaY (zgc (o:=(.e _)) rfl c.za4 (zaY (za3 rfl (.inl rfl) rfl rfl)) rfl c.n_list boot_list (by decide))) (zaY (zgc (o:=(.e _)) rfl c.za4 (zaY (za3 rfl (.inl rfl) rfl rfl)) rfl c.n_list boot_list (by decide))) rfl) (sw_or1 (zmv (o1:=(.e _)) (o2:=(.e _)) cb_ne (zqB (znW hu)) (zaY (zgc (o:=(.e _)) rfl c.za4 (zaY (za3 rfl (.inl rfl) rfl rfl)) rfl c.zny boot_tuple (by decide))) (zaY (zgc (o:=(.e _)) rfl c.za4 (zaY (za3 rfl (.inl rfl) rfl rfl)) rfl c.zny boot_tuple (by decide))) rfl)))) (za7 (ze2 hfr (zaa rfl)) zaI) zaI) (za7 (ze2 hfr (zmx (zmw (o1:=(.e _)) (o2:=(.e _)) (zhH (znW hu)) (zaY (zfB (o:=(.e _)) zgR rfl c.n_len boot_len (zaY (za3 rfl (.inl rfl) rfl rfl)) (by decide))) (zaY (zfB (o:=(.e _)) zgR rfl c.n_len boot_len (zaY (za3 rfl (.inl rfl) rfl rfl)) (by decide))) rfl) (PE.un (se_one (zfB (o:=(.e _)) (prim_all rfl) rfl c.n_all boot_all (zaY (se_comp (ownS:=(("_law_one",2) :: (("_law_other",3) :: []))) rfl hnd (si_zip rfl c.n_zip (za3 rfl (.inl rfl) rfl rfl) (za3 rfl (.inl rfl) rfl rfl)) (blk_of (by rfl)) (by (intro i _; exact hcc i)) (by decide) (fun _ _ _ _ _=>(sg_tup rfl (zgJ (zeX hnd rfl (.inl rfl) (.inr rfl)) (zgJ (zeX hnd rfl (.inl rfl) (.inr rfl)) sgs_nil)))) (fun _ _ _ _ _=>sts_nil) (fun _ _ _ _ _=>(zew ok (zdw (fun _=>rfl)) takes_blk L.zlr hrm rfl c.zl2 c.k__law_same rfl c.B__law_same (zhE (za3 rfl (.inl rfl) rfl rfl) (zhE (za3 rfl (.inl rfl) rfl rfl) zdj)))) (by (intro _; rfl)))) (by decide)))))) zaI)) zaI) (za7 (zoL (zf6 (zqw (o:=(.e _)) rfl c.za4 (zaY (za3 rfl (.inl rfl) rfl rfl)) (.cons rfl c.n_bool rfl (by decide) (by decide) rfl (.cons rfl c.zqO rfl (by decide) (by decide) rfl .nil)) (by decide)) (by (intro _; rfl))) (za7 (ze2 hfr (zmx (zgc (o:=(.e _)) rfl c.za4 (zaY (za3 rfl (.inl rfl) rfl rfl)) rfl c.zqO boot_int (by decide)) (PE.un (zmx (zmw (o1:=(.e _)) (o2:=(.e _)) (zhH (znW hu)) (zaY (zgc (o:=(.e _)) rfl c.za4 (zaY (za3 rfl (.inl rfl) rfl rfl)) rfl c.n_bool boot_bool (by decide))) (zaY (zgc (o:=(.e _)) rfl c.za4 (zaY (za3 rfl (.inl rfl) rfl rfl)) rfl c.n_bool boot_bool (by decide))) rfl) (PE.un (se_one (zmw (o1:=(.e _)) (o2:=(.e _)) (zhH (znW hu)) (zaY (za3 rfl (.inl rfl) rfl rfl)) (zaY (za3 rfl (.inl rfl) rfl rfl)) rfl))))))) zaI) zaI) (za7 (ze2 hfr (zmx (se_not (zqw (o:=(.e _)) rfl c.za4 (zaY (za3 rfl (.inl rfl) rfl rfl)) (.cons rfl c.n_bool rfl (by decide) (by decide) rfl (.cons rfl c.zqO rfl (by decide) (by decide) rfl (.cons rfl c.n_list rfl (by decide) (by decide) rfl (.cons rfl c.zny rfl (by decide) (by decide) rfl .nil)))) (by decide))) (PE.un (se_one (zmw (o1:=(.e _)) (o2:=(.e _)) (zhH (znW hu)) (zaY (za3 rfl (.inl rfl) rfl rfl)) (zaY (za3 rfl (.inl rfl) rfl rfl)) rfl))))) zaI)))
theorem zof {P : Program} {w : World} {K : PySem.W.Frag} {mg : Str→Option Value} {base : Heap} {n k : Nat} (c : HF K mg) (L : Lv P w K mg base n k) : Fk P w K mg base (Tk P w K) tbl (n + 1) (k + 2) 91 (He.ga K "_law_object") ["_law_draws"] zfw:=by
 have ok : ExOk (Tk P w K):=zd4 (G:=gOf P w K (T0 K)) rfl
 have tok : TOk K (Tk P w K):=tok c
 have hnd : (["_law_draws","_law_n"] : List Str).Nodup:=by decide +kernel
 have hcc : ∀ i,(Tk P w K).cm.c i=none:=fun _=>rfl
 refine fn_D (k:=k + 1) (N:=["_law_draws","_law_n"]) ok ⟨fun _=>rfl,rfl⟩ c.zeT ⟨rfl,rfl,rfl,hnd,rfl,by decide +kernel,by decide +kernel⟩ rfl rfl rfl rfl rfl rfl ?_
 intro cdv A outer s H E En hrm1 hfr hle
 have hrm:=hrm1.mono (Nat.le_succ k)
 have hu:=zbS hrm1
 exact (za7 (ss_asg (zew ok (zdw (fun _=>rfl)) (takes_of rfl rfl rfl rfl) L.zls hrm rfl c.zl3 c.k__law_draw rfl c.B__law_draw (sas_p rfl (.inl rfl) rfl rfl (zhE (zaa rfl) zdj))) (zeX hnd rfl (.inl rfl) (.inl rfl)) (by (rw [hle]; decide))) (za7 (ze2 hfr (zdO (o1:=(.e _)) (o2:=(.e _)) (hu_1 hu) (zaY (ziH (za2 (zch (o1:=(.e _)) (o2:=(.e _)) prim_sub (zaY (zch (o1:=(.e _)) (o2:=(.e _)) prim_pow (zaY (zaa rfl)) (zaY (zaa rfl)))) (zaY (za3 rfl (.inl rfl) rfl rfl))) (za2 (zaa rfl) (za2 (zdB (za2 (za3 rfl (.inl rfl) rfl rfl) (za2 (zaa rfl) zao))) (za2 (zaa rfl) (za2 (zdB (za2 (zdB (za2 (zaa rfl) (za2 (zaa rfl) zao))) (za2 (zdB (za2 (za3 rfl (.inl rfl) rfl rfl) (za2 (zaa rfl) zao))) zao))) (za2 (zch (o1:=(.e _)) (o2:=(.e _)) prim_sub (zaY (zaa rfl)) (zaY (za3 rfl (.inl rfl) rfl rfl))) zao)))))))) (zaY (zew ok (zdw (fun _=>rfl)) (takes_of rfl rfl rfl rfl) L.zls hrm rfl c.zl3 c.k__law_draw rfl c.B__law_draw (sas_p rfl (.inl rfl) rfl rfl (zhE (zaa rfl) zdj)))) (by (intro _ _; rfl)))) zaI))
theorem zq2 {P : Program} {w : World} {K : PySem.W.Frag} {mg : Str→Option Value} {base : Heap} {n k : Nat} (c : HF K mg) (L : Lv P w K mg base n k) : Fk P w K mg base (Tk P w K) tbl (n + 1) (k + 2) 92 (He.ga K "_law_kinds") ["_law_e"] zhy:=by
 have ok : ExOk (Tk P w K):=zd4 (G:=gOf P w K (T0 K)) rfl
 have tok : TOk K (Tk P w K):=tok c
 have hnd : (["_law_e","_law_found","_law_is_so"] : List Str).Nodup:=by decide +kernel
 have hcc : ∀ i,(Tk P w K).cm.c i=none:=fun _=>rfl
 refine fn_D (k:=k + 1) (N:=["_law_e","_law_found","_law_is_so"]) ok ⟨fun _=>rfl,rfl⟩ c.zfA ⟨rfl,rfl,rfl,hnd,rfl,by decide +kernel,by decide +kernel⟩ rfl rfl rfl rfl rfl rfl ?_
 intro cdv A outer s H E En hrm1 hfr hle
 have hrm:=hrm1.mono (Nat.le_succ k)
 have hu:=zbS hrm1
 exact (za7 (zqu (ps_set (i:=1) hnd rfl (by first | exact .inl rfl | exact .inr rfl) (ziH (za2 (zcg (zbb c) (zri c) (za3 rfl (.inl rfl) rfl rfl) rfl c.za4 rfl c.zl5) (za2 (zcg (zbb c) (zpG c) (za3 rfl (.inl rfl) rfl rfl) rfl c.za4 rfl c.zis) (za2 (zcg (zbb c) (zpF c) (za3 rfl (.inl rfl) rfl rfl) rfl c.za4 rfl c.zir) (za2 (zcg (zbb c) (zrh c) (za3 rfl (.inl rfl) rfl rfl) rfl c.za4 rfl c.zl4) zao)))))) (by (rw [hle]; decide))) (za7 (zgI (zoE rfl (.inl rfl) rfl rfl) (ziH (za2 (zcg (zbb c) (zpE c) (za3 rfl (.inl rfl) rfl rfl) rfl c.za4 rfl c.ziq) (za2 (zcg (zbb c) (zpD c) (za3 rfl (.inl rfl) rfl rfl) rfl c.za4 rfl c.zio) (za2 (zcg (zbb c) (isx_Beyond c) (za3 rfl (.inl rfl) rfl rfl) rfl c.za4 rfl c.g_Beyond) (za2 (zcg (zbb c) (isx_Held c) (za3 rfl (.inl rfl) rfl rfl) rfl c.za4 rfl c.g_Held) zao)))))) (za7 (zgI (zoE rfl (.inl rfl) rfl rfl) (ziH (za2 (zcg (zbb c) (zpC c) (za3 rfl (.inl rfl) rfl rfl) rfl c.za4 rfl c.zim) (za2 (zcg (zbb c) (isx_NoPage c) (za3 rfl (.inl rfl) rfl rfl) rfl c.za4 rfl c.znZ) (za2 (zcg (zbb c) (zpB c) (za3 rfl (.inl rfl) rfl rfl) rfl c.za4 rfl c.zil) zao))))) (za7 (ze2 hfr (zfB (o:=(.e _)) zgR rfl c.n_len boot_len (zaY (se_comp (ownS:=(("_law_is_so",2) :: [])) rfl hnd (si_e (se_mvar rfl (.inl rfl) rfl rfl (by (intro fr h v e; simp only [ev,e])))) (blk_of (by rfl)) (by (intro i _; exact hcc i)) (by decide) (fun _ _ _ _ _=>(zeX hnd rfl (.inl rfl) (.inr rfl))) (fun _ _ _ _ _=>(sts_one (zf6 (za3 rfl (.inl rfl) rfl rfl) (by (intro _; rfl))))) (fun _ _ _ _ _=>(za3 rfl (.inl rfl) rfl rfl)) (by (intro _; rfl)))) (by decide))) zaI))))
theorem zq1 {P : Program} {w : World} {K : PySem.W.Frag} {mg : Str→Option Value} {base : Heap} {n k : Nat} (c : HF K mg) (B : HB K mg base) (L : Lv P w K mg base n k) : Fk P w K mg base (Tk P w K) tbl (n + 1) (k + 2) 93 (He.ga K "_law_pairs") ["_law_a"] zhx:=by
 have ok : ExOk (Tk P w K):=zd4 (G:=gOf P w K (T0 K)) rfl
 have tok : TOk K (Tk P w K):=tok c
 have hnd : (["_law_a","_law_found"] : List Str).Nodup:=by decide +kernel
 have hTB:=B.zoh
 have hTab : tabN K (He.cT K ("_law_pairs",none)).2=some nmL:=zlF
 refine fn_DC (p:=("_law_pairs",none)) (k:=k + 1) (T:=Tk P w K) (N:=["_law_a","_law_found"]) (pcl:=[]) (lcl:=[]) ok ⟨fun _=>rfl,rfl⟩ c.zfz ⟨rfl,rfl,rfl,hnd,rfl,by decide +kernel,by decide +kernel⟩ rfl rfl rfl rfl rfl rfl rfl (by decide) (by decide) (by decide) (by decide +kernel) ?_
 intro A outer s H E En cm hrm1 hfr hle hcm hcc hca
 have hrm:=hrm1.mono (Nat.le_succ k)
 have hu:=zbS hrm1
 exact (za7 (zqu (ps_set (i:=1) hnd rfl (by first | exact .inl rfl | exact .inr rfl) (ziH (za2 (zdB (za2 (zet rfl c.zmr L.px hrm1 c.zbv rfl c.zl4 (za2 (za3 rfl (.inl rfl) rfl rfl) zao)) (za2 (zeu rfl c.zmr c.xn_BadName L.px hrm1 c.zbv rfl c.zl4 (PE.un (za3 rfl (.inl rfl) rfl rfl))) (za2 (zgK (D:=(LD59)) (by assumption) hTB rfl rfl rfl (by (decide +kernel)) (by (decide +kernel)) hca rfl hTab rfl rfl rfl) zao)))) (za2 (zdB (za2 (zet rfl c.zjM L.px hrm1 c.zbv rfl c.zio (za2 (za3 rfl (.inl rfl) rfl rfl) zao)) (za2 (zeu rfl c.zjM c.zqm L.px hrm1 c.zbv rfl c.zio (PE.un (za3 rfl (.inl rfl) rfl rfl))) (za2 (zgK (D:=(LD60)) (by assumption) hTB rfl rfl rfl (by (decide +kernel)) (by (decide +kernel)) hca rfl hTab rfl rfl rfl) zao)))) zao)))) (by (rw [hle]; decide))) (za7 (zgI (zoE rfl (.inl rfl) rfl rfl) (ziH (za2 (zdB (za2 (zet rfl c.zjO L.px hrm1 c.zbv rfl c.zir (za2 (za3 rfl (.inl rfl) rfl rfl) zao)) (za2 (zeu rfl c.zjO c.zqo L.px hrm1 c.zbv rfl c.zir (PE.un (za3 rfl (.inl rfl) rfl rfl))) (za2 (zgK (D:=(LD61)) (by assumption) hTB rfl rfl rfl (by (decide +kernel)) (by (decide +kernel)) hca rfl hTab rfl rfl rfl) zao)))) (za2 (zdB (za2 (zet rfl c.zoF L.px hrm1 c.zbv rfl c.znZ (za2 (za3 rfl (.inl rfl) rfl rfl) zao)) (za2 (zeu rfl c.zoF c.xn_NoPage L.px hrm1 c.zbv rfl c.znZ (PE.un (za3 rfl (.inl rfl) rfl rfl))) (za2 (zgK (D:=(LD62)) (by assumption) hTB rfl rfl rfl (by (decide +kernel)) (by (decide +kernel)) hca rfl hTab rfl rfl rfl) zao)))) zao)))) (za7 (zjT (zoE rfl (.inl rfl) rfl rfl) (zdB (za2 (zet rfl c.zjL L.px hrm1 c.zbv rfl c.zim (za2 (za3 rfl (.inl rfl) rfl rfl) zao)) (za2 (zeu rfl c.zjL c.zql L.px hrm1 c.zbv rfl c.zim (PE.un (za3 rfl (.inl rfl) rfl rfl))) (za2 (zgK (D:=(LD63)) (by assumption) hTB rfl rfl rfl (by (decide +kernel)) (by (decide +kernel)) hca rfl hTab rfl rfl rfl) zao))))) (za7 (zgI (zoE rfl (.inl rfl) rfl rfl) (ziH (za2 (zdB (za2 (zet rfl c.zms L.px hrm1 c.zbv rfl c.zl5 (za2 (za3 rfl (.inl rfl) rfl rfl) zao)) (za2 (zeu rfl c.zms c.xn_BadFall L.px hrm1 c.zbv rfl c.zl5 (PE.un (za3 rfl (.inl rfl) rfl rfl))) (za2 (zgK (D:=(LD64)) (by assumption) hTB rfl rfl rfl (by (decide +kernel)) (by (decide +kernel)) hca rfl hTab rfl rfl rfl) zao)))) (za2 (zdB (za2 (zet rfl c.zjP L.px hrm1 c.zbv rfl c.zis (za2 (za3 rfl (.inl rfl) rfl rfl) zao)) (za2 (zeu rfl c.zjP c.zqp L.px hrm1 c.zbv rfl c.zis (PE.un (za3 rfl (.inl rfl) rfl rfl))) (za2 (zgK (D:=(LD65)) (by assumption) hTB rfl rfl rfl (by (decide +kernel)) (by (decide +kernel)) hca rfl hTab rfl rfl rfl) zao)))) zao)))) (za7 (zjT (zoE rfl (.inl rfl) rfl rfl) (zdB (za2 (zet rfl c.zjN L.px hrm1 c.zbv rfl c.ziq (za2 (za3 rfl (.inl rfl) rfl rfl) zao)) (za2 (zeu rfl c.zjN c.zqn L.px hrm1 c.zbv rfl c.ziq (PE.un (za3 rfl (.inl rfl) rfl rfl))) (za2 (zgK (D:=(LD66)) (by assumption) hTB rfl rfl rfl (by (decide +kernel)) (by (decide +kernel)) hca rfl hTab rfl rfl rfl) zao))))) (za7 (zjT (zoE rfl (.inl rfl) rfl rfl) (zdB (za2 (zet rfl c.zjK L.px hrm1 c.zbv rfl c.zil (za2 (za3 rfl (.inl rfl) rfl rfl) zao)) (za2 (zeu rfl c.zjK c.zqk L.px hrm1 c.zbv rfl c.zil (PE.un (za3 rfl (.inl rfl) rfl rfl))) (za2 (zgK (D:=(LD67)) (by assumption) hTB rfl rfl rfl (by (decide +kernel)) (by (decide +kernel)) hca rfl hTab rfl rfl rfl) zao))))) (za7 (ss_retO hfr (by (rw [hle]; decide)) rfl (.inl rfl) rfl rfl) zaI)))))))
theorem W_law {P : Program} {w : World} {K : PySem.W.Frag} {mg : Str→Option Value} {base : Heap} {n k : Nat} (c : HF K mg) (L : Lv P w K mg base n k) : Fk P w K mg base (Tk P w K) tbl (n + 1) (k + 2) 90 (He.ga K "law") ["_law_script"] zq9:=by
 have ok : ExOk (Tk P w K):=zd4 (G:=gOf P w K (T0 K)) rfl
 have tok : TOk K (Tk P w K):=tok c
 have hnd : (["_law_script","_law_turn","_law_draws","_law_a","_law_one","_law_two","_law_field","_law_e","_law_held","_law_beyond"] : List Str).Nodup:=by decide +kernel
 have hcc : ∀ i,(Tk P w K).cm.c i=none:=fun _=>rfl
 refine fn_D (k:=k + 1) (N:=["_law_script","_law_turn","_law_draws","_law_a","_law_one","_law_two","_law_field","_law_e","_law_held","_law_beyond"]) ok ⟨fun _=>rfl,rfl⟩ c.D_law ⟨rfl,rfl,rfl,hnd,rfl,by decide +kernel,by decide +kernel⟩ rfl rfl rfl rfl rfl rfl ?_
 intro cdv A outer s H E En hrm1 hfr hle
 have hrm:=hrm1.mono (Nat.le_succ k)
 have hu:=zbS hrm1
 exact (za7 (ss_for (passes_of rfl) rfl (si_range1 rfl c.n_range (zch (o1:=(.e _)) (o2:=(.e _)) zfD (zaY (zaa rfl)) (zaY (se_call2 (o:=(.e _)) (o':=(.e _)) (prim_min2 rfl) rfl c.n_min boot_min (zaY (zfB (o:=(.e _)) zgR rfl c.n_len boot_len (zaY (za3 rfl (.inl rfl) rfl rfl)) (by decide))) (zaY (zaa rfl)) (by decide))))) (zeX hnd rfl (.inl rfl) (.inl rfl)) (za7 (zqu (ps_set (i:=2) hnd rfl (by first | exact .inl rfl | exact .inr rfl) (zew ok (zdw (fun _=>rfl)) (takes_of rfl rfl rfl rfl) L.zos hrm rfl c.znX c.k__law_source rfl c.B__law_source (zhE (za3 rfl (.inl rfl) rfl rfl) (zhE (za3 rfl (.inl rfl) rfl rfl) zdj)))) (by (rw [hle]; decide))) (za7 (ss_asg (zew ok (zdw (fun _=>rfl)) (takes_of rfl rfl rfl rfl) L.zot hrm rfl c.znY c.k__law_object rfl c.B__law_object (sas_p rfl (.inl rfl) rfl rfl zdj)) (zeX hnd rfl (.inl rfl) (.inl rfl)) (by (rw [hle]; decide))) (za7 (ss_for (passes_of rfl) rfl (si_e (zew ok (zdw (fun _=>rfl)) (takes_of rfl rfl rfl rfl) L.zq7 hrm rfl c.zpK c.k__law_pairs rfl c.B__law_pairs (zhE (za3 rfl (.inl rfl) rfl rfl) zdj))) (sg_tup rfl (zgJ (zeX hnd rfl (.inl rfl) (.inl rfl)) (zgJ (zeX hnd rfl (.inl rfl) (.inl rfl)) (zgJ (zeX hnd rfl (.inl rfl) (.inl rfl)) sgs_nil)))) (za7 (ss_for (passes_of rfl) rfl (si_e (zdB (za2 (za3 rfl (.inl rfl) rfl rfl) (za2 (za3 rfl (.inl rfl) rfl rfl) zao)))) (zeX hnd rfl (.inl rfl) (.inl rfl)) (za7 (zoL (st_w (sw_or (st_not (zf6 (zcg (zbb c) (zeE c) (za3 rfl (.inl rfl) rfl rfl) rfl c.za4 rfl c.zgr) (by (intro _; rfl)))) (sw_or (st_not (zf6 (zjX (zbb c) (zg8 c) (za3 rfl (.inl rfl) rfl rfl) rfl c.za4 rfl c.ziN boot_ValueError (by decide)) (by (intro _; rfl)))) (sw_or1 (zmv (o1:=(.e _)) (o2:=(.e _)) cb_ne (zqB (znW hu)) (zaY (zew ok (zdw (fun _=>rfl)) (takes_of rfl rfl rfl rfl) L.zfv hrm rfl c.zfi c.k__law_kinds rfl c.B__law_kinds (zhE (za3 rfl (.inl rfl) rfl rfl) zdj))) (zaY (zaa rfl)) rfl))))) (za7 (ze2 hfr (zaa rfl)) zaI) zaI) (za7 (zoL (st_not (zf6 (se_callF (zdw (fun _=>rfl)) (takes_of rfl rfl rfl rfl) L.zlr hrm rfl c.zl2 c.k__law_same rfl c.B__law_same (za2 (se_callv (n:=(1)) ok (zdw (fun _=>rfl)) (takes_of rfl rfl rfl rfl) (L.fns _ rfl rfl rfl rfl rfl _) hrm (PE.un (za3 rfl (.inl rfl) rfl rfl)) rfl (zhE (za3 rfl (.inl rfl) rfl rfl) zdj)) (za2 (za3 rfl (.inl rfl) rfl rfl) zao))) (by (intro _; rfl)))) (za7 (ze2 hfr (zaa rfl)) zaI) zaI) zaI)) (by (rw [hle]; decide)) (by (intro _; rfl))) zaI) (by (rw [hle]; decide)) (by (intro _; rfl))) zaI))) (by (rw [hle]; decide)) (by (intro _; rfl))) (za7 (ss_par2 rfl hnd rfl rfl (by decide) rfl rfl (zhE (se_mkx0 rfl c.b_Held c.e_Held c.g_Held c.k_Held rfl) (zhE (se_mkx0 rfl c.b_Beyond c.e_Beyond c.g_Beyond c.k_Beyond rfl) zdj)) rfl (by (rw [hle]; decide)) rfl) (za7 (zoL (st_w (sw_or (zf6 (zcg (zbb c) (zeE c) (za3 rfl (.inl rfl) rfl rfl) rfl c.za4 rfl c.zgr) (by (intro _; rfl))) (sw_or (zf6 (zjX (zbb c) (zg8 c) (za3 rfl (.inl rfl) rfl rfl) rfl c.za4 rfl c.ziN boot_ValueError (by decide)) (by (intro _; rfl))) (sw_or1 (st_not (zf6 (zjX (zbb c) (znT c) (za3 rfl (.inl rfl) rfl rfl) rfl c.za4 rfl c.zqP rfl (by decide)) (by (intro _; rfl)))))))) (za7 (ze2 hfr (zaa rfl)) zaI) zaI) (za7 (zoL (st_w (sw_or (zf6 (zjX (zbb c) (zkW c) (za3 rfl (.inl rfl) rfl rfl) rfl c.za4 rfl c.znz rfl (by decide)) (by (intro _; rfl))) (sw_or1 (zf6 (zjX (zbb c) (zjn c) (za3 rfl (.inl rfl) rfl rfl) rfl c.za4 rfl c.zlR rfl (by decide)) (by (intro _; rfl)))))) (za7 (ze2 hfr (zaa rfl)) zaI) zaI) (za7 (ze2 hfr (zmx (zcg (zbb c) (zeE c) (za3 rfl (.inl rfl) rfl rfl) rfl c.za4 rfl c.zgr) (PE.un (zmx (zmw (o1:=(.e _)) (o2:=(.e _)) (zhH (znW hu)) (zaY (zew ok (zdw (fun _=>rfl)) (takes_of rfl rfl rfl rfl) L.zfv hrm rfl c.zfi c.k__law_kinds rfl c.B__law_kinds (zhE (za3 rfl (.inl rfl) rfl rfl) zdj))) (zaY (zaa rfl)) rfl) (PE.un (se_one (zmw (o1:=(.e _)) (o2:=(.e _)) (zhH (znW hu)) (zaY (zew ok (zdw (fun _=>rfl)) (takes_of rfl rfl rfl rfl) L.zfv hrm rfl c.zfi c.k__law_kinds rfl c.B__law_kinds (zhE (za3 rfl (.inl rfl) rfl rfl) zdj))) (zaY (zaa rfl)) rfl))))))) zaI)))))
theorem W_lam59 {P : Program} {w : World} {K : PySem.W.Frag} {mg : Str→Option Value} {base : Heap} {n k : Nat} (c : HF K mg) (L : Lv P w K mg base n k) : zhu P w K mg base (k + 2) LD59 (fun as kc=>zcF (gOf P w K (Tk P w K)) (Tk P w K).ExR (call tbl (n + 1)) (zhh 59 as kc LD59.qual) false []):=by
 have ok : ExOk (Tk P w K):=zd4 (G:=gOf P w K (T0 K)) rfl
 have hnd : (["_law_e"] : List Str).Nodup:=by decide +kernel
 refine zhe (T:=Tk P w K) (N:=["_law_e"]) (ps:=["_law_e"]) (d:=lam59) (k:=k + 1) rfl ok (NdefX.nscope_by (by decide +kernel)) (fun pm ctv kc cl us hl=>match us,hl with | [_],_=>rfl) rfl rfl rfl rfl rfl rfl rfl ?_
 intro A outer s H E f kc cl cs as hrm1 hcm
 have hrm:=hrm1.mono (Nat.le_succ k)
 have hu:=zbS hrm1
 exact (PE.un (zes (zbb c) rfl (xf_name c) (za3 rfl (.inl rfl) rfl rfl)))
theorem W_lam60 {P : Program} {w : World} {K : PySem.W.Frag} {mg : Str→Option Value} {base : Heap} {n k : Nat} (c : HF K mg) (L : Lv P w K mg base n k) : zhu P w K mg base (k + 2) LD60 (fun as kc=>zcF (gOf P w K (Tk P w K)) (Tk P w K).ExR (call tbl (n + 1)) (zhh 60 as kc LD60.qual) false []):=by
 have ok : ExOk (Tk P w K):=zd4 (G:=gOf P w K (T0 K)) rfl
 have hnd : (["_law_p"] : List Str).Nodup:=by decide +kernel
 refine zhe (T:=Tk P w K) (N:=["_law_p"]) (ps:=["_law_p"]) (d:=lam60) (k:=k + 1) rfl ok (NdefX.nscope_by (by decide +kernel)) (fun pm ctv kc cl us hl=>match us,hl with | [_],_=>rfl) rfl rfl rfl rfl rfl rfl rfl ?_
 intro A outer s H E f kc cl cs as hrm1 hcm
 have hrm:=hrm1.mono (Nat.le_succ k)
 have hu:=zbS hrm1
 exact (PE.un (zes (zbb c) rfl (xf_value c) (za3 rfl (.inl rfl) rfl rfl)))
theorem W_lam61 {P : Program} {w : World} {K : PySem.W.Frag} {mg : Str→Option Value} {base : Heap} {n k : Nat} (c : HF K mg) (L : Lv P w K mg base n k) : zhu P w K mg base (k + 2) LD61 (fun as kc=>zcF (gOf P w K (Tk P w K)) (Tk P w K).ExR (call tbl (n + 1)) (zhh 61 as kc LD61.qual) false []):=by
 have ok : ExOk (Tk P w K):=zd4 (G:=gOf P w K (T0 K)) rfl
 have hnd : (["_law_e"] : List Str).Nodup:=by decide +kernel
 refine zhe (T:=Tk P w K) (N:=["_law_e"]) (ps:=["_law_e"]) (d:=lam61) (k:=k + 1) rfl ok (NdefX.nscope_by (by decide +kernel)) (fun pm ctv kc cl us hl=>match us,hl with | [_],_=>rfl) rfl rfl rfl rfl rfl rfl rfl ?_
 intro A outer s H E f kc cl cs as hrm1 hcm
 have hrm:=hrm1.mono (Nat.le_succ k)
 have hu:=zbS hrm1
 exact (PE.un (zes (zbb c) rfl (xf_limit c) (za3 rfl (.inl rfl) rfl rfl)))
theorem W_lam62 {P : Program} {w : World} {K : PySem.W.Frag} {mg : Str→Option Value} {base : Heap} {n k : Nat} (c : HF K mg) (L : Lv P w K mg base n k) : zhu P w K mg base (k + 2) LD62 (fun as kc=>zcF (gOf P w K (Tk P w K)) (Tk P w K).ExR (call tbl (n + 1)) (zhh 62 as kc LD62.qual) false []):=by
 have ok : ExOk (Tk P w K):=zd4 (G:=gOf P w K (T0 K)) rfl
 have hnd : (["_law_p"] : List Str).Nodup:=by decide +kernel
 refine zhe (T:=Tk P w K) (N:=["_law_p"]) (ps:=["_law_p"]) (d:=lam62) (k:=k + 1) rfl ok (NdefX.nscope_by (by decide +kernel)) (fun pm ctv kc cl us hl=>match us,hl with | [_],_=>rfl) rfl rfl rfl rfl rfl rfl rfl ?_
 intro A outer s H E f kc cl cs as hrm1 hcm
 have hrm:=hrm1.mono (Nat.le_succ k)
 have hu:=zbS hrm1
 exact (PE.un (zes (zbb c) rfl (xf_name c) (za3 rfl (.inl rfl) rfl rfl)))
theorem W_lam63 {P : Program} {w : World} {K : PySem.W.Frag} {mg : Str→Option Value} {base : Heap} {n k : Nat} (c : HF K mg) (L : Lv P w K mg base n k) : zhu P w K mg base (k + 2) LD63 (fun as kc=>zcF (gOf P w K (Tk P w K)) (Tk P w K).ExR (call tbl (n + 1)) (zhh 63 as kc LD63.qual) false []):=by
 have ok : ExOk (Tk P w K):=zd4 (G:=gOf P w K (T0 K)) rfl
 have hnd : (["_law_e"] : List Str).Nodup:=by decide +kernel
 refine zhe (T:=Tk P w K) (N:=["_law_e"]) (ps:=["_law_e"]) (d:=lam63) (k:=k + 1) rfl ok (NdefX.nscope_by (by decide +kernel)) (fun pm ctv kc cl us hl=>match us,hl with | [_],_=>rfl) rfl rfl rfl rfl rfl rfl rfl ?_
 intro A outer s H E f kc cl cs as hrm1 hcm
 have hrm:=hrm1.mono (Nat.le_succ k)
 have hu:=zbS hrm1
 exact (PE.un (zes (zbb c) rfl (xf_moment c) (za3 rfl (.inl rfl) rfl rfl)))
theorem W_lam64 {P : Program} {w : World} {K : PySem.W.Frag} {mg : Str→Option Value} {base : Heap} {n k : Nat} (c : HF K mg) (L : Lv P w K mg base n k) : zhu P w K mg base (k + 2) LD64 (fun as kc=>zcF (gOf P w K (Tk P w K)) (Tk P w K).ExR (call tbl (n + 1)) (zhh 64 as kc LD64.qual) false []):=by
 have ok : ExOk (Tk P w K):=zd4 (G:=gOf P w K (T0 K)) rfl
 have hnd : (["_law_e"] : List Str).Nodup:=by decide +kernel
 refine zhe (T:=Tk P w K) (N:=["_law_e"]) (ps:=["_law_e"]) (d:=lam64) (k:=k + 1) rfl ok (NdefX.nscope_by (by decide +kernel)) (fun pm ctv kc cl us hl=>match us,hl with | [_],_=>rfl) rfl rfl rfl rfl rfl rfl rfl ?_
 intro A outer s H E f kc cl cs as hrm1 hcm
 have hrm:=hrm1.mono (Nat.le_succ k)
 have hu:=zbS hrm1
 exact (PE.un (zes (zbb c) rfl (xf_fall c) (za3 rfl (.inl rfl) rfl rfl)))
theorem W_lam65 {P : Program} {w : World} {K : PySem.W.Frag} {mg : Str→Option Value} {base : Heap} {n k : Nat} (c : HF K mg) (L : Lv P w K mg base n k) : zhu P w K mg base (k + 2) LD65 (fun as kc=>zcF (gOf P w K (Tk P w K)) (Tk P w K).ExR (call tbl (n + 1)) (zhh 65 as kc LD65.qual) false []):=by
 have ok : ExOk (Tk P w K):=zd4 (G:=gOf P w K (T0 K)) rfl
 have hnd : (["_law_p"] : List Str).Nodup:=by decide +kernel
 refine zhe (T:=Tk P w K) (N:=["_law_p"]) (ps:=["_law_p"]) (d:=lam65) (k:=k + 1) rfl ok (NdefX.nscope_by (by decide +kernel)) (fun pm ctv kc cl us hl=>match us,hl with | [_],_=>rfl) rfl rfl rfl rfl rfl rfl rfl ?_
 intro A outer s H E f kc cl cs as hrm1 hcm
 have hrm:=hrm1.mono (Nat.le_succ k)
 have hu:=zbS hrm1
 exact (PE.un (zes (zbb c) rfl (xf_step c) (za3 rfl (.inl rfl) rfl rfl)))
theorem W_lam66 {P : Program} {w : World} {K : PySem.W.Frag} {mg : Str→Option Value} {base : Heap} {n k : Nat} (c : HF K mg) (L : Lv P w K mg base n k) : zhu P w K mg base (k + 2) LD66 (fun as kc=>zcF (gOf P w K (Tk P w K)) (Tk P w K).ExR (call tbl (n + 1)) (zhh 66 as kc LD66.qual) false []):=by
 have ok : ExOk (Tk P w K):=zd4 (G:=gOf P w K (T0 K)) rfl
 have hnd : (["_law_e"] : List Str).Nodup:=by decide +kernel
 refine zhe (T:=Tk P w K) (N:=["_law_e"]) (ps:=["_law_e"]) (d:=lam66) (k:=k + 1) rfl ok (NdefX.nscope_by (by decide +kernel)) (fun pm ctv kc cl us hl=>match us,hl with | [_],_=>rfl) rfl rfl rfl rfl rfl rfl rfl ?_
 intro A outer s H E f kc cl cs as hrm1 hcm
 have hrm:=hrm1.mono (Nat.le_succ k)
 have hu:=zbS hrm1
 exact (PE.un (zes (zbb c) rfl (xf_place c) (za3 rfl (.inl rfl) rfl rfl)))
theorem W_lam67 {P : Program} {w : World} {K : PySem.W.Frag} {mg : Str→Option Value} {base : Heap} {n k : Nat} (c : HF K mg) (L : Lv P w K mg base n k) : zhu P w K mg base (k + 2) LD67 (fun as kc=>zcF (gOf P w K (Tk P w K)) (Tk P w K).ExR (call tbl (n + 1)) (zhh 67 as kc LD67.qual) false []):=by
 have ok : ExOk (Tk P w K):=zd4 (G:=gOf P w K (T0 K)) rfl
 have hnd : (["_law_e"] : List Str).Nodup:=by decide +kernel
 refine zhe (T:=Tk P w K) (N:=["_law_e"]) (ps:=["_law_e"]) (d:=lam67) (k:=k + 1) rfl ok (NdefX.nscope_by (by decide +kernel)) (fun pm ctv kc cl us hl=>match us,hl with | [_],_=>rfl) rfl rfl rfl rfl rfl rfl rfl ?_
 intro A outer s H E f kc cl cs as hrm1 hcm
 have hrm:=hrm1.mono (Nat.le_succ k)
 have hu:=zbS hrm1
 exact (PE.un (zes (zbb c) rfl (xf_value c) (za3 rfl (.inl rfl) rfl rfl)))
theorem lv_zero {P : Program} {w : World} {K : PySem.W.Frag} {mg : Str→Option Value} {base : Heap} {k : Nat} (c : HF K mg) (px : Xi.PxOk zdP P) : Lv P w K mg base 0 k:=by
 refine ⟨px,zgt,zgt,zgt,zgt,zgt,zgt,zgt,fun X e1 e2 e3 e4 e5 m=>?_⟩
 subst e1; subst e2; subst e3; subst e4; subst e5
 refine ⟨fun g p e=>?_,fun l o e=>?_⟩
 ·change fnA X.K g=some p at e
  unfold fnA at e
  split at e
  ·cases e
 ·change lamO l=some o at e
  unfold lamO at e
  split at e
  ·cases e; exact ⟨LD59,rfl,rfl,zd6⟩
  ·cases e; exact ⟨LD60,rfl,rfl,zd6⟩
  ·cases e; exact ⟨LD61,rfl,rfl,zd6⟩
  ·cases e; exact ⟨LD62,rfl,rfl,zd6⟩
  ·cases e; exact ⟨LD63,rfl,rfl,zd6⟩
  ·cases e; exact ⟨LD64,rfl,rfl,zd6⟩
  ·cases e; exact ⟨LD65,rfl,rfl,zd6⟩
  ·cases e; exact ⟨LD66,rfl,rfl,zd6⟩
  ·cases e; exact ⟨LD67,rfl,rfl,zd6⟩
  ·cases e
theorem lv_step {P : Program} {w : World} {K : PySem.W.Frag} {mg : Str→Option Value} {base : Heap} {n k : Nat} (c : HF K mg) (B : HB K mg base) (L : Lv P w K mg base n k) : Lv P w K mg base (n + 1) (k + 2):=by
 refine ⟨L.px,zoe c L,zrt c L,zrs c L,zof c L,zq2 c L,zq1 c B L,W_law c L,fun X e1 e2 e3 e4 e5 m=>?_⟩
 subst e1; subst e2; subst e3; subst e4; subst e5
 refine ⟨fun g p e=>?_,fun l o e=>?_⟩
 ·change fnA X.K g=some p at e
  unfold fnA at e
  split at e
  ·cases e
 ·change lamO l=some o at e
  unfold lamO at e
  split at e
  ·cases e; exact ⟨LD59,rfl,rfl,W_lam59 c L⟩
  ·cases e; exact ⟨LD60,rfl,rfl,W_lam60 c L⟩
  ·cases e; exact ⟨LD61,rfl,rfl,W_lam61 c L⟩
  ·cases e; exact ⟨LD62,rfl,rfl,W_lam62 c L⟩
  ·cases e; exact ⟨LD63,rfl,rfl,W_lam63 c L⟩
  ·cases e; exact ⟨LD64,rfl,rfl,W_lam64 c L⟩
  ·cases e; exact ⟨LD65,rfl,rfl,W_lam65 c L⟩
  ·cases e; exact ⟨LD66,rfl,rfl,W_lam66 c L⟩
  ·cases e; exact ⟨LD67,rfl,rfl,W_lam67 c L⟩
  ·cases e
theorem lv_all {P : Program} {w : World} {K : PySem.W.Frag} {mg : Str→Option Value} {base : Heap} (c : HF K mg) (px : Xi.PxOk zdP P) (B : HB K mg base) : ∀ n,Lv P w K mg base n (2 * n + 1)
 | 0=>lv_zero c px 
 | n + 1=>lv_step c B (lv_all c px B n)
end K01
end
section
set_option maxHeartbeats 0
namespace K01
open K
open PySem PySem.Spec PyProof.Rows L2 Fx
theorem hf_of {K : PySem.W.Frag} {h : Heap} {mg : Str→Option Value} (X : K.In h) (G : h.Ns mainGlobals mg) (c : SaysY fa fn tf ex h K) : HF K mg :=
 ⟨He.free_ok X G (c.a.fact 0 (f:=.free "Exception") rfl),
 He.free_ok X G (c.a.fact 1 (f:=.free "LookupError") rfl),
 He.free_ok X G (c.a.fact 2 (f:=.free "RuntimeError") rfl),
 He.free_ok X G (c.a.fact 3 (f:=.free "ValueError") rfl),
 He.free_ok X G (c.a.fact 4 (f:=.free "all") rfl),
 He.free_ok X G (c.a.fact 5 (f:=.free "bool") rfl),
 He.free_ok X G (c.a.fact 6 (f:=.free "int") rfl),
 He.free_ok X G (c.a.fact 7 (f:=.free "isinstance") rfl),
 He.free_ok X G (c.a.fact 8 (f:=.free "len") rfl),
 He.free_ok X G (c.a.fact 9 (f:=.free "list") rfl),
 He.free_ok X G (c.a.fact 10 (f:=.free "min") rfl),
 He.free_ok X G (c.a.fact 11 (f:=.free "range") rfl),
 He.free_ok X G (c.a.fact 12 (f:=.free "super") rfl),
 He.free_ok X G (c.a.fact 13 (f:=.free "tuple") rfl),
 He.free_ok X G (c.a.fact 14 (f:=.free "zip") rfl),
 He.glo_ok X G (c.a.fact 15 (f:=.glo "_law_source") rfl),
 He.glo_ok X G (c.a.fact 16 (f:=.glo "_law_draw") rfl),
 He.glo_ok X G (c.a.fact 17 (f:=.glo "_law_same") rfl),
 He.glo_ok X G (c.a.fact 18 (f:=.glo "_law_object") rfl),
 He.glo_ok X G (c.a.fact 19 (f:=.glo "_law_kinds") rfl),
 He.glo_ok X G (c.a.fact 20 (f:=.glo "_law_pairs") rfl),
 He.glo_ok X G (c.a.fact 21 (f:=.glo "law") rfl),
 He.glo_ok X G (c.a.fact 22 (f:=.glo "BadName") rfl),
 He.glo_ok X G (c.a.fact 23 (f:=.glo "BadValue") rfl),
 He.glo_ok X G (c.a.fact 24 (f:=.glo "NoMoment") rfl),
 He.glo_ok X G (c.a.fact 25 (f:=.glo "BadPlace") rfl),
 He.glo_ok X G (c.a.fact 26 (f:=.glo "NotTruth") rfl),
 He.glo_ok X G (c.a.fact 27 (f:=.glo "BadLimit") rfl),
 He.glo_ok X G (c.a.fact 28 (f:=.glo "NoPage") rfl),
 He.glo_ok X G (c.a.fact 29 (f:=.glo "BadFall") rfl),
 He.glo_ok X G (c.a.fact 30 (f:=.glo "BadGuard") rfl),
 He.glo_ok X G (c.a.fact 31 (f:=.glo "Held") rfl),
 He.glo_ok X G (c.a.fact 32 (f:=.glo "Beyond") rfl),
 zgs (c.a.def_ 0 (d:=zho) rfl),
 zgs (c.a.def_ 1 (d:=zlh) rfl),
 zgs (c.a.def_ 2 (d:=zlg) rfl),
 zgs (c.a.def_ 3 (d:=zhp) rfl),
 zgs (c.a.def_ 4 (d:=ziQ) rfl),
 zgs (c.a.def_ 5 (d:=ziP) rfl),
 zgs (c.a.def_ 6 (d:=d_law) rfl),
 Xi.zgH (exAt c.more 0 rfl),
 Xi.zgH (exAt c.more 1 rfl),
 Xi.zgH (exAt c.more 2 rfl),
 Xi.zgH (exAt c.more 3 rfl),
 Xi.zgH (exAt c.more 4 rfl),
 Xi.zgH (exAt c.more 5 rfl),
 Xi.zgH (exAt c.more 6 rfl),
 Xi.zgH (exAt c.more 7 rfl),
 Xi.zgH (exAt c.more 8 rfl),
 exAt c.more 9 rfl,
 He.keep_ok (c.a.fact 33 (f:=.keep "Held") rfl),
 of_decide_eq_true (exAt c.more 10 rfl),
 of_decide_eq_true (exAt c.more 11 rfl),
 exAt c.more 12 rfl,
 He.keep_ok (c.a.fact 34 (f:=.keep "Beyond") rfl),
 of_decide_eq_true (exAt c.more 13 rfl),
 of_decide_eq_true (exAt c.more 14 rfl),
 He.glo_ok X G (c.a.fact 35 (f:=.glo "FallError") rfl),
 exAt c.more 15 rfl,
 exAt c.more 16 rfl,
 exAt c.more 17 rfl,
 exAt c.more 18 rfl,
 exAt c.more 19 rfl,
 exAt c.more 20 rfl,
 exAt c.more 21 rfl,
 exAt c.more 22 rfl,
 exAt c.more 23 rfl,
 exAt c.more 24 rfl,
 exAt c.more 25 rfl,
 exAt c.more 26 rfl,
 exAt c.more 27 rfl,
 exAt c.more 28 rfl,
 exAt c.more 29 rfl,
 exAt c.more 30 rfl,
 exAt c.more 31 rfl,
 exAt c.more 32 rfl,
 exAt c.more 33 rfl,
 exAt c.more 34 rfl,
 exAt c.more 35 rfl,
 exAt c.more 36 rfl,
 exAt c.more 37 rfl,
 exAt c.more 38 rfl,
 exAt c.more 39 rfl,
 exAt c.more 40 rfl,
 exAt c.more 41 rfl,
 exAt c.more 42 rfl,
 exAt c.more 43 rfl,
 exAt c.more 44 rfl,
 exAt c.more 45 rfl,
 exAt c.more 46 rfl,
 exAt c.more 47 rfl⟩
def Plain (N : Nat) : Prop:=∀ ns : List Int,ns.length≤63→(∀ z∈ns,Builtin.Int.intBits z≤1048576)→∃ outs h',call tbl N (.fn 90) [.val (.lst (ns.map Val.int))] ⟨[],[]⟩ = .ok (.bool true) outs h'
theorem at_law (pl : Plain 40) (w : World) (mg : Str→Option Value) (fa' : Addr) (h : Heap) (Y : hk.says w h) (G : h.Ns mainGlobals mg) (hmg : mg "law" = some (.ref fa')) : ∃ K : PySem.W.Frag,K.In h∧LamX.LawAtS PySem.Challenge.rw_fallways_k01_errors_made w K (L2.CX pw w) 81 63 "_law_script" mg fa' h:=by
 obtain ⟨K,KX,c⟩:=Y
 have F:=hf_of KX G c
 have e:=hmg.symm.trans F.g_law
 cases e
 have hb:=F.B_law
 refine ⟨K,KX,fdOf K (He.ga K "law"),tf.map (He.cT K),_,fun p hp=>?_,fun p hp=>?_,fun p hp=>?_,fun s u=>?_,fun H a ns hl hbits hT hS=>law_sp (P:=pw) (w:=w) (K:=K) (T:=Tk pw w K) (TT:=tbl) (N:=40) (g:=90) ?_ hS (pl ns hl hbits),fun base kb gb tb=>(lv_all F ⟨by kernel_rfl,by kernel_rfl⟩ ⟨tb _ (List.mem_map.mpr ⟨("_law_pairs",none),by simp [tf],rfl⟩)⟩ 40).F_law⟩
 ·obtain ⟨q,hq,rfl⟩:=List.mem_map.mp hp
  exact c.empty q hq
 ·obtain ⟨q,hq,rfl⟩:=List.mem_map.mp hp
  exact c.out q hq
 ·obtain ⟨q,hq,rfl⟩:=List.mem_map.mp hp
  exact PySem.W.codeHd_of_K KX (c.hd q hq)
 ·exact FunD.bindsA (ps:=["_law_script"]) F.D_law (fun _ _ _ _ _ _ us hl=>match us,hl with | [_],_=>rfl) s [u] rfl
 ·intro p nm e
  change tabN K p=some nm at e
  unfold tabN at e
  split at e
  ·rename_i z; rw [z]; exact hT _ (List.mem_map.mpr ⟨("_law_pairs",none),by simp [tf],rfl⟩)
  cases e
end K01
open PySem PySem.W PySem.Calls PyProof.Rows
theorem k01_holds (pl : K01.Plain 40) : PySem.Challenge.rw_fallways_k01_errors_made.Holds:=by
 w_on; o_law
 refine HandSHeadRun.head_any (r:=K01.R) (q:=K01.qv) (H:=K01.hk) (ob:=K01.ob) (M:=20000) (loose:=K01.names) (d:=HandSHeadRun.topDef K01.R.prog 20) (kwd:=[]) K01.ob_eq
  (by kernel_rfl) (fun s=>by kernel_rfl) K01.run (by kernel_rfl) (by kernel_rfl) (by kernel_rfl) (by rfl) (by first | assumption | decide +kernel) (by decide +kernel) ⟨rfl,rfl,rfl,rfl,rfl,by decide +kernel⟩ ?hw ?hc
 case hw=>w_witness2
 case hc =>
  refine LamX.walk_ofTsE (l:=PySem.Challenge.rw_fallways_k01_errors_made) (n:=63) (k:=81) (x:="_law_script") (CX:=fun w=>L2.CX K01.pw w) rfl (by decide) (by kernel_rfl) ⟨rfl,by decide,by decide⟩ ?F fun _ _ _ _ _ z=>by obtain ⟨_,_,_,_,_,_,_,_,_,_,_,_,z⟩:=z; exact z
  intro w mg fa h Y G hmg0
  refine K01.at_law pl w mg fa h Y G ?_
  have e : (HandSHeadRun.topDef K01.R.prog 20).name=("law" : PySem.Str):=by kernel_rfl
  rw [← e]
  exact hmg0
end
section
section
set_option maxHeartbeats 4000000
namespace Pl
open Fx
def zcf : Slot→Bool
 | .cell _=>false
 | _=>true
def okS : Option Slot→Bool
 | some (.cell _)=>false
 | some _=>true
 | Option.none=>false
theorem zoX {v : Val} : zcf (.val v)=true:=rfl
theorem zoY {v : Val} : zcf (.own v)=true:=rfl
theorem pureS_un : zcf .un=true:=rfl
theorem znv {σ : Fr} {i : Nat} : zbU σ i=okS σ[i]?:=rfl
theorem okS_val {v : Val} : okS (some (.val v))=true:=rfl
theorem okS_own {v : Val} : okS (some (.own v))=true:=rfl
theorem okS_un : okS (some .un)=true:=rfl
def rb {α β : Type} (m : Res α) (f : α→Fr→MH→Res β) : Res β:=match m with
 | .ok a σ h=>f a σ h
 | .exn c x σ h=>.exn c x σ h
 | .stuck=>.stuck
def ro {α : Type} (m : Res α) (f : α→Fr→MH→SRes) : SRes:=match m with
 | .ok a σ h=>f a σ h
 | .exn c x σ h=>.exn c x σ h
 | .stuck=>.stuck
def rs (m : SRes) (f : Fr→MH→SRes) : SRes:=match m with
 | .nx σ h=>f σ h
 | r=>r
section
variable {α β : Type} {T : Tbl} {C : Callee} {σ : Fr} {h : MH}
theorem rb_ok {a : α} {f : α→Fr→MH→Res β} : rb (.ok a σ h) f=f a σ h:=rfl
theorem rb_exn {c x} {f : α→Fr→MH→Res β} : rb (.exn c x σ h) f = .exn c x σ h:=rfl
theorem ro_ok {a : α} {f : α→Fr→MH→SRes} : ro (.ok a σ h) f=f a σ h:=rfl
theorem ro_exn {c x} {f : α→Fr→MH→SRes} : ro (.exn c x σ h) f = .exn c x σ h:=rfl
theorem rs_nx {f : Fr→MH→SRes} : rs (.nx σ h) f=f σ h:=rfl
theorem rs_ret {v} {f : Fr→MH→SRes} : rs (.ret v σ h) f = .ret v σ h:=rfl
theorem rs_exn {c x} {f : Fr→MH→SRes} : rs (.exn c x σ h) f = .exn c x σ h:=rfl
theorem rs_brk {f : Fr→MH→SRes} : rs (.brk σ h) f = .brk σ h:=rfl
theorem rs_cont {f : Fr→MH→SRes} : rs (.cont σ h) f = .cont σ h:=rfl
theorem bnd_a {m : Fr→MH→Res α} {f : α→Fr→MH→Res β} : bnd m f σ h=rb (m σ h) f:=rfl
theorem ofRes_a {m : Fr→MH→Res α} {f : α→Fr→MH→SRes} : zaZ m f σ h=ro (m σ h) f:=rfl
theorem seqS_a {m f : Fr→MH→SRes} : seqS m f σ h=rs (m σ h) f:=rfl
theorem rt_a {a : α} : rt a σ h = .ok a σ h:=rfl
theorem opt_some {a : α} : opt (some a) σ h = .ok a σ h:=rfl
def varR (o : Option Slot) (σ : Fr) (h : MH) : Res Val:=match o with
 | some (.val v)=>.ok v σ h
 | _=>.stuck
theorem varR_val {v} : varR (some (.val v)) σ h = .ok v σ h:=rfl
def mvarR (i : Nat) (o : Option Slot) (σ : Fr) (h : MH) : Res Val:=match o with
 | some (.val v)=>.ok v σ h
 | some (.own v)=>.ok v (σ.set i (.val v)) h
 | _=>.stuck
theorem zph {i v} : mvarR i (some (.val v)) σ h = .ok v σ h:=rfl
theorem zpi {i v} : mvarR i (some (.own v)) σ h = .ok v (σ.set i (.val v)) h:=rfl
def cvarR (o : Option Slot) (σ : Fr) (h : MH) : Res Val:=match o with
 | some (.cell c)=>(match h.cells[c]? with
  | some (some v)=>.ok v σ h
  | _=>.stuck)
 | _=>.stuck
def slR (i : Nat) (o : Option Slot) (σ : Fr) (h : MH) : Res OV:=match o with
 | some (.val _)=>.ok (OV.sl i) σ h
 | some (.own _)=>.ok (OV.sl i) σ h
 | _=>.stuck
theorem slR_val {i v} : slR i (some (.val v)) σ h = .ok (OV.sl i) σ h:=rfl
theorem slR_own {i v} : slR i (some (.own v)) σ h = .ok (OV.sl i) σ h:=rfl
def slU (o : Option Slot) (σ : Fr) (h : MH) : Res Unit:=match o with
 | some (.val _)=>.ok () σ h
 | some (.own _)=>.ok () σ h
 | _=>.stuck
theorem slU_val {v} : slU (some (.val v)) σ h = .ok () σ h:=rfl
theorem slU_own {v} : slU (some (.own v)) σ h = .ok () σ h:=rfl
def flR (f : Nat) (v : Val) (σ : Fr) (h : MH) : Res OV:=match v with
 | .ref a=>(match fieldOf h a f with
  | some (.own _)=>.ok (OV.fl a f) σ h
  | _=>.stuck)
 | _=>.stuck
theorem ev_lit {v} : ev T C (.lit v) σ h = .ok v σ h:=rfl
theorem ev_var {i} : ev T C (.var i) σ h=varR σ[i]? σ h:=rfl
theorem ev_mvar {i} : ev T C (.mvar i) σ h=mvarR i σ[i]? σ h:=rfl
theorem ev_cvar {i} : ev T C (.cvar i) σ h=cvarR σ[i]? σ h:=rfl
theorem ev_prim {p os} : ev T C (.prim p os) σ h=rb (evo T C os σ h) (fin p):=rfl
theorem ev_tup {es} : ev T C (.tup es) σ h=rb (evs T C es σ h) fun vs=>opt (zlP vs):=rfl
theorem ev_lst {es} : ev T C (.lst es) σ h=rb (evs T C es σ h) fun vs=>opt (zcj vs):=rfl
theorem ev_call {g as} : ev T C (.call g as) σ h=rb (eva T C as σ h) fun xs=>callC C (.fn g) (T.lent g) xs some:=rfl
theorem evs_nil : evs T C .nil σ h = .ok [] σ h:=rfl
theorem evs_cons {e es} : evs T C (.cons e es) σ h=rb (ev T C e σ h) fun v=>bnd (evs T C es) fun vs=>rt (v :: vs):=rfl
theorem zdU : evo T C .nil σ h = .ok [] σ h:=rfl
theorem evo_e {x r} : evo T C (.e x r) σ h=rb (ev T C x σ h) fun v=>bnd (evo T C r) fun vs=>rt (OV.v v :: vs):=by
 show rb (rb (ev T C x σ h) _) _ = _
 cases ev T C x σ h <;> rfl
theorem evo_b {i r} : evo T C (.b i r) σ h=rb (slR i σ[i]? σ h) fun o=>bnd (evo T C r) fun vs=>rt (o :: vs):=rfl
theorem evo_bf {x f r} : evo T C (.bf x f r) σ h=rb (rb (ev T C x σ h) (flR f)) fun o=>bnd (evo T C r) fun vs=>rt (o :: vs):=rfl
theorem eva_nil : eva T C .nil σ h = .ok [] σ h:=rfl
theorem eva_e {x r} : eva T C (.e x r) σ h=rb (ev T C x σ h) fun v=>bnd (eva T C r) fun vs=>rt (AV.v v :: vs):=rfl
theorem eva_f {x r} : eva T C (.f x r) σ h=rb (ev T C x σ h) fun v=>bnd (ldR v) fun v=>bnd (eva T C r) fun vs=>rt (AV.f v :: vs):=rfl
theorem ldR_l {l} : ldR (.lst l) σ h = .ok (.lst l) σ h:=rfl
theorem ldR_d {l} : ldR (.dct l) σ h = .ok (.dct l) σ h:=rfl
theorem eva_p {i r} : eva T C (.p i r) σ h=rb (slU σ[i]? σ h) fun _=>bnd (eva T C r) fun vs=>rt (AV.p i :: vs):=rfl
def ifR (o : Option Bool) (a b : Fr→MH→SRes) : Fr→MH→SRes:=match o with
 | some true=>a
 | some false=>b
 | none=>fun _ _=>.stuck
theorem ifR_t {a b : Fr→MH→SRes} : ifR (some true) a b=a:=rfl
theorem ifR_f {a b : Fr→MH→SRes} : ifR (some false) a b=b:=rfl
theorem ex_ite {c a b} : ex T C (.ite c a b) σ h=ro (ev T C c σ h) fun v=>ifR (Fx.truthy v) (exs T C a) (exs T C b):=by
 show ro (rb (ev T C c σ h) _) _ = _
 cases ev T C c σ h with
 | ok v σ h=>cases q : Fx.truthy v with
  | none=>simp only [rb,ro,q,ifR,opt]
  | some k=>cases k <;> simp only [rb,ro,q,ifR,opt] <;> rfl
 | exn=>rfl
 | stuck=>rfl
theorem ex_asg {p e} : ex T C (.asg p e) σ h=ro (ev T C e σ h) fun v=>zaZ (asgM p v) fun _ σ h=>.nx σ h:=rfl
theorem ex_ret {e} : ex T C (.ret e) σ h=ro (ev T C e σ h) fun v σ h=>.ret v σ h:=rfl
theorem ex_expr {e} : ex T C (.expr e) σ h=ro (ev T C e σ h) fun _ σ h=>.nx σ h:=rfl
theorem ex_setI {p k e} : ex T C (.setI p k e) σ h=ro (ev T C e σ h) fun v=>change T C Option.none p (bnd (ev T C k) fun kv=>rt (.tup false [kv,v])) fun w x=>match x with
  | .tup _ [kv,v]=>setV kv w v
  | _=>Option.none:=rfl
theorem zpQ {p e} : ex T C (.append p e) σ h=change T C (some false) p (ev T C e) ziw σ h:=rfl
theorem change_a {d p rest f} : change T C d p rest f σ h=ro (evo T C (plcO p) σ h) fun os=>zaZ (early d os) fun _=>zaZ rest fun x=>match os with
  | [o]=>ze1 o x f
  | _=>fun _ _=>.stuck:=rfl
theorem early_a {d os} : early d os σ h=if zg9 d (za9 os σ h) then .ok () σ h else .stuck:=rfl
theorem exs_nil : exs T C .nil σ h = .nx σ h:=rfl
theorem exs_cons {s r} : exs T C (.cons s r) σ h=rs (ex T C s σ h) (exs T C r):=rfl
theorem fin_a {p vs} : fin p vs σ h=match (za9 vs σ h).bind (za5 p) with
  | some v=>.ok v σ h
  | Option.none=>.stuck:=by
 unfold fin
 cases za9 vs σ h <;> rfl
theorem asgM_var {i v} : asgM (.var i) v σ h=if zbU σ i then .ok () (σ.set i (.val v)) h else .stuck:=by
 show (match (if zbU σ i then some (σ.set i (.val v),h) else Option.none) with | some (σ',h')=>Res.ok () σ' h' | Option.none=>.stuck) = _
 by_cases e : zbU σ i=true
 ·rw [if_pos e,if_pos e]
 ·rw [if_neg e,if_neg e]
def tstR {α : Type} (o : Option Bool) (f : Bool→Fr→MH→Res α) : Fr→MH→Res α:=match o with
 | some b=>f b
 | none=>fun _ _=>.stuck
theorem zoH {b : Bool} {f : Bool→Fr→MH→Res α} : tstR (some b) f=f b:=rfl
theorem zkv {o : Option Bool} {f : Bool→Fr→MH→Res α} : bnd (opt o) f σ h=tstR o f σ h:=by
 cases o <;> rfl
theorem ev_fld {e f} : ev T C (.fld e f) σ h=rb (ev T C e σ h) fun v σ h=>match v with
  | .ref a=>(match fieldOf h a f with
   | some (.val w)=>.ok w σ h
   | _=>.stuck)
  | _=>.stuck:=rfl
theorem ev_dget {o k d} : ev T C (.dget o k d) σ h=rb (evo T C o σ h) fun os=>bnd (early (some true) os) fun _=>bnd (ev T C k) fun kv=>bnd (ev T C d) fun dv σ h=>match os with
  | [o]=>(match resolve o σ h with
   | some v=>opt (za5 .get [v,kv,dv]) σ h
   | Option.none=>.stuck)
  | _=>.stuck:=rfl
theorem ev_and {a b} : ev T C (.and a b) σ h=rb (ev T C a σ h) fun v=>tstR (Fx.truthy v) fun t=>if t then ev T C b else rt v:=by
 show rb (ev T C a σ h) _ = _
 congr 1; funext v σ h; exact zkv
theorem ev_or {a b} : ev T C (.or a b) σ h=rb (ev T C a σ h) fun v=>tstR (Fx.truthy v) fun t=>if t then rt v else ev T C b:=by
 show rb (ev T C a σ h) _ = _
 congr 1; funext v σ h; exact zkv
theorem ev_not {a} : ev T C (.not a) σ h=rb (ev T C a σ h) fun v=>tstR (Fx.truthy v) fun t=>rt (.bool (!t)):=by
 show rb (ev T C a σ h) _ = _
 congr 1; funext v σ h; exact zkv
theorem ev_ifx {c a b} : ev T C (.ifx c a b) σ h=rb (ev T C c σ h) fun v=>tstR (Fx.truthy v) fun t=>if t then ev T C a else ev T C b:=by
 show rb (ev T C c σ h) _ = _
 congr 1; funext v σ h; exact zkv
theorem ev_chain {p q a b c} : ev T C (.chain p q a b c) σ h=rb (ev T C a σ h) fun x=>bnd (ev T C b) fun y=>bnd (opt (za5 p [x,y])) fun r=>match r with
  | .bool true=>bnd (ev T C c) fun z=>opt (za5 q [y,z])
  | .bool false=>rt (.bool false)
  | _=>fun _ _=>.stuck:=rfl
theorem ev_dct {ks vs} : ev T C (.dct ks vs) σ h=rb (evs T C ks σ h) fun k=>bnd (evs T C vs) fun v=>bnd (opt (zipKV k v)) fun ps=>if dOksA [] ps then rt (.dct (zpT [] ps)) else fun _ _=>.stuck:=rfl
theorem zrn {e own p it ifs} : ev T C (.comp e own p it ifs) σ h=rb (evi T C it σ h) fun vs=>inBlock own (bnd (zd1 own p (evt T C ifs) (bnd (ev T C e) fun y=>rt [y]) vs) fun ys=>opt (zcj ys)):=rfl
theorem evi_zip {es} : evi T C (.zip es) σ h=rb (evs T C es σ h) fun vs=>match vs with
  | [.lst a,.lst b]=>rt ((a.zip b).map fun p=>.tup false [p.1,p.2])
  | [.tup _ a,.tup _ b]=>rt ((a.zip b).map fun p=>.tup false [p.1,p.2])
  | _=>fun _ _=>.stuck:=rfl
theorem evt_nil : evt T C .nil σ h = .ok true σ h:=rfl
theorem evt_cons {e es} : evt T C (.cons e es) σ h=rb (ev T C e σ h) fun v=>tstR (Fx.truthy v) fun t=>if t then evt T C es else rt false:=by
 show rb (ev T C e σ h) _ = _
 congr 1; funext v σ h; exact zkv
theorem zfJ {α : Type} {own p} {t : Fr→MH→Res Bool} {f : Fr→MH→Res (List α)} {v vs} : zd1 own p t f (v :: vs) σ h=rb (asgM p v σ h) fun _=>bnd t fun b=>bnd (if b then f else rt []) fun ys σ h=>bnd (zd1 own p t f vs) (fun zs=>rt (ys ++ zs)) (Fx.wipe own σ) h:=rfl
def blkR {α : Type} (own : List Nat) (σ₀ : Fr) (m : Res α) : Res α:=match m with
 | .ok a σ' h'=>.ok a (restore own σ₀ σ') h'
 | _=>.stuck
theorem zrr {α : Type} {own σ₀} {a : α} : blkR own σ₀ (.ok a σ h) = .ok a (restore own σ₀ σ) h:=rfl
theorem zkY {α : Type} {own} {m : Fr→MH→Res α} : inBlock own m σ h=if own.all (freeSlot σ) then blkR own σ (m (Fx.wipe own σ) h) else .stuck:=by
 unfold inBlock
 by_cases e : own.all (freeSlot σ)=true
 ·rw [if_pos e,if_pos e]
  cases m (Fx.wipe own σ) h <;> rfl
 ·rw [if_neg e,if_neg e]
def backR (as : List AV) (ss : List Slot) (σ : Fr) (h : MH) (m : CRes) : Res Val:=match m with
 | .ok v outs h'=>if zbV as ss outs then .ok v (backTo as outs σ) (reC σ h h') else .stuck
 | .exn c x outs h'=>if zbV as ss outs then .exn c x (backTo as outs σ) (reC σ h h') else .stuck
 | .stuck=>.stuck
theorem backR_ok {as ss v outs h'} : backR as ss σ h (.ok v outs h')=if zbV as ss outs then .ok v (backTo as outs σ) (reC σ h h') else .stuck:=rfl
theorem zpY {as ss c x outs h'} : backR as ss σ h (.exn c x outs h')=if zbV as ss outs then .exn c x (backTo as outs σ) (reC σ h h') else .stuck:=rfl
theorem callO_a {t lent as} : zhq C t lent as σ h=if zex as && zhd lent 0 as then (match zap as σ with
  | Option.none=>.stuck
  | some ss=>backR as ss σ h (C t ss h)) else .stuck:=rfl
theorem callC_s {t lent as} : callC C t lent as some σ h=zhq C t lent as σ h:=rfl
theorem reC_pure {h' : MH} (hp : σ.all zcf=true) : reC σ h h' = h':=by
 have : ∀ (l : List Slot) (cs cs' : List (Option Val)),l.all zcf=true→reCs cs l cs' = cs':=by
  intro l
  induction l with
  | nil=>intro _ _ _; rfl
  | cons s l ih =>
   intro cs cs' hp
   rw [List.all_cons,Bool.and_eq_true_iff] at hp
   cases s with
   | cell c=>cases hp.1
   | _=>exact ih cs cs' hp.2
 unfold reC
 rw [this _ _ _ hp]
theorem ex_pass : ex T C .pass σ h = .nx σ h:=rfl
theorem ex_setO {i e} : ex T C (.setO i e) σ h=ro (ev T C e σ h) fun v σ h=>if zbU σ i && isLD v then .nx (σ.set i (.own v)) h else .stuck:=rfl
theorem ex_par {ts as} : ex T C (.par ts as) σ h=ro (eva T C as σ h) fun vs σ h=>match zbT ts vs σ with
  | some σ'=>.nx σ' h
  | Option.none=>.stuck:=rfl
theorem ex_while {c b} : ex T C (.while c b) σ h=whileL (bnd (ev T C c) fun v=>opt (Fx.truthy v)) (exs T C b) turns σ h:=rfl
def whR (m : SRes) (k : Fr→MH→SRes) : SRes:=match m with
 | .nx σ h=>k σ h
 | .cont σ h=>k σ h
 | .brk σ h=>.nx σ h
 | r=>r
theorem forL_cons {p} {b : Fr→MH→SRes} {v vs} : forL p b (v :: vs) σ h=match asg p v σ h with
  | Option.none=>.stuck
  | some (σ',h')=>whR (b σ' h') (forL p b vs):=by
 show (match asg p v σ h with | Option.none=>SRes.stuck | some (σ',h')=>_) = _
 cases asg p v σ h with
 | none=>rfl
 | some z=>obtain ⟨σ',h'⟩:=z; dsimp only; cases b σ' h' <;> rfl
theorem za0 {g : Nat} {d : Def} (hd : T.defs g=some d) : T.lent g=d.lent:=by
 unfold Tbl.lent
 rw [hd]
end
end Pl
end
section
set_option maxHeartbeats 4000000
namespace Pl
open Fx K
end Pl
end
local macro_rules | `(tactic| simp_all! [$ls,*])=>`(tactic| simp (config:={ decide:=false }) only [Pl.rb_ok,Pl.rb_exn,Pl.ro_ok,Pl.ro_exn,Pl.rs_nx,Pl.rs_ret,Pl.rs_exn,Pl.rs_brk,Pl.rs_cont,Pl.bnd_a,Pl.ofRes_a,Pl.seqS_a,Pl.rt_a,Pl.opt_some,Pl.varR_val,Pl.zph,Pl.zpi,Pl.slR_val,Pl.slR_own,Pl.slU_val,Pl.slU_own,Pl.ev_lit,Pl.ev_var,Pl.ev_mvar,Pl.ev_cvar,Pl.ev_prim,Pl.ev_tup,Pl.ev_lst,Pl.ev_call,Pl.evs_nil,Pl.evs_cons,Pl.zdU,Pl.evo_e,Pl.evo_b,Pl.evo_bf,Pl.eva_nil,Pl.eva_e,Pl.eva_f,Pl.ldR_l,Pl.ldR_d,Pl.eva_p,Pl.ifR_t,Pl.ifR_f,Pl.ev_and,Pl.ev_or,Pl.ev_not,Pl.ev_ifx,Pl.ev_chain,Pl.zoH,Pl.ev_dget,Pl.ev_fld,Pl.ev_dct,Pl.ex_par,Pl.ex_setO,Pl.ex_pass,Pl.callC_s,Pl.callO_a,Pl.backR_ok,Pl.zpY,Fx.zex,Fx.zhd,Fx.zap,Fx.zbV,Fx.backTo,List.contains_cons,List.contains_nil,List.all_cons,List.all_nil,Bool.and_true,Bool.true_and,Bool.or_false,Bool.false_or,beq_self_eq_true,Pl.ex_ite,Pl.ex_asg,Pl.ex_ret,Pl.ex_expr,Pl.ex_setI,Pl.zpQ,Pl.change_a,Pl.early_a,Pl.exs_nil,Pl.exs_cons,Pl.fin_a,Pl.asgM_var,Fx.za9,Fx.resolve,Fx.zn6,Fx.zbN,Fx.za5,Fx.plcO,Fx.ze1,Fx.setV,Pl.znv,Pl.okS_val,Pl.okS_own,Pl.okS_un,Pl.zoX,Pl.zoY,Pl.pureS_un,Fx.zg9,Option.map_some,Option.bind_some,List.getElem?_cons_zero,List.getElem?_cons_succ,List.set_cons_zero,List.set_cons_succ,if_pos,if_true,ite_true,if_false,ite_false,Bool.false_eq_true,reduceIte,Nat.reduceAdd,Nat.reduceLeDiff,Nat.reduceLT,Int.reduceLT,Int.reduceLE,Int.reduceAdd,Int.reduceToNat,Nat.reduceSub,Fx.zcj,Fx.zlP,List.length_cons,List.length_nil,Fx.line,$ls,*])
local macro_rules | `(tactic| simp_all!)=>`(tactic| simp_all! [])

section
namespace Pl
open Fx K
theorem call_fn {T : Tbl} {n g : Nat} {d : Def} {as : List Slot} {h : MH} (hd : T.defs g=some d) {fr : Fr} {h1 : MH} (e : enter d as [] h=some (fr,h1)) : Fx.call T (n + 1) (.fn g) as h=leave d (exs T (Fx.call T n) d.body fr h1):=by
 simp only [Fx.call,hd,e]
theorem zpS : ∀ {l : List Slot} {cs : List (Option Val)},l.all zcf=true→zdG cs l=cs
 | [],_,_=>rfl
 | s :: l,cs,h=>by
  have h:=Bool.and_eq_true_iff.mp (show (zcf s && l.all zcf)=true from h)
  cases s with
  | cell c=>cases h.1
  | _=>exact zpS (l:=l) h.2
theorem zpy {d : Def} {σ : Fr} {h : MH} (hp : (σ.take d.params ++ σ.drop (d.params + d.caps)).all zcf=true) : zfZ d σ h=h:=by
 unfold zfZ
 by_cases e : d.esc=true
 ·rw [if_pos e]
 ·rw [if_neg e,zpS hp]
theorem zdH {T : Tbl} {n g : Nat} {d : Def} {as : List Slot} {h : MH} (hd : T.defs g=some d) {fr : Fr} {h1 : MH} (e : enter d as [] h=some (fr,h1)) {v : Val} {σ : Fr} {h2 : MH} (r : exs T (Fx.call T n) d.body fr h1 = .ret v σ h2)
  (hp : (σ.take d.params ++ σ.drop (d.params + d.caps)).all zcf=true:=by rfl) : Fx.call T (n + 1) (.fn g) as h = .ok v (σ.take d.params) h2:=by
 rw [call_fn hd e,r]
 show CRes.ok v (σ.take d.params) (zfZ d σ h2) = _
 rw [zpy hp]
theorem call_nx {T : Tbl} {n g : Nat} {d : Def} {as : List Slot} {h : MH} (hd : T.defs g=some d) {fr : Fr} {h1 : MH} (e : enter d as [] h=some (fr,h1)) {σ : Fr} {h2 : MH} (r : exs T (Fx.call T n) d.body fr h1 = .nx σ h2)
  (hp : (σ.take d.params ++ σ.drop (d.params + d.caps)).all zcf=true:=by rfl) : Fx.call T (n + 1) (.fn g) as h = .ok .none (σ.take d.params) h2:=by
 rw [call_fn hd e,r]
 show CRes.ok .none (σ.take d.params) (zfZ d σ h2) = _
 rw [zpy hp]
def D3 (d : Int × Int × Int) : Val:=.lst [.int d.1,.int d.2.1,.int d.2.2]
def drw (d : Int × Int × Int) (m : Int) : Int × (Int × Int × Int) :=
 if d.1 > 0 then (d.1 % m,(d.1 / m,d.2.1,d.2.2))
 else
  (((d.2.1 * 48271 + (d.2.2 + 1) * 7919 + 12345) % 2147483647 / 65536 + (d.2.1 * 48271 + (d.2.2 + 1) * 7919 + 12345) % 2147483647) % m,(d.1,(d.2.1 * 48271 + (d.2.2 + 1) * 7919 + 12345) % 2147483647,d.2.2 + 1))
theorem sp_draw {T : Tbl} {n : Nat} (hT : T.defs zby=some zgA) {d : Int × Int × Int} {m : Int} {h : MH} (hm : 0 < m) (hm2 : m < 1073741824) :
  Fx.call T (n + 1) (.fn zby) [.own (D3 d),.val (.int m)] h = .ok (.int (drw d m).1) [.own (D3 (drw d m).2),.val (.int m)] h:=by
 obtain ⟨a,b,c⟩:=d
 have i0 : ixAt 3 0=some 0:=rfl
 have i1 : ixAt 3 1=some 1:=rfl
 have i2 : ixAt 3 2=some 2:=rfl
 unfold D3 drw
 by_cases ha : a > 0
 ·rw [if_pos ha]
  refine zdH hT rfl (fr:=[.own (D3 (a,b,c)),.val (.int m),.un]) (h1:=h) (σ:=[.own (D3 (a / m,b,c)),.val (.int m),.val (.int (a % m))]) ?_
  simp only [zgA,D3]
  simp_all! [i0,i1,i2,ha,hm,hm2,decide_true,Fx.truthy,and_self]
 ·rw [if_neg ha]
  refine zdH hT rfl (fr:=[.own (D3 (a,b,c)),.val (.int m),.un]) (h1:=h) (σ:=[.own (D3 (a,(b * 48271 + (c + 1) * 7919 + 12345) % 2147483647,c + 1)),.val (.int m),.un]) ?_
  have s1 : small 48271=true:=by decide
  have s2 : small 7919=true:=by decide
  have c1 : (0 : Int) < 2147483647:=by decide
  have c2 : ((0 : Int) < 65536∧(65536 : Int) < 1073741824)=True:=by simp
  simp only [zgA,D3]
  simp_all! [i0,i1,i2,ha,hm,hm2,decide_false,Fx.truthy,and_self,s1,s2,Bool.or_true,c1,c2]
end Pl
end
section
set_option maxHeartbeats 4000000
namespace Pl
open Fx K
theorem drw_lt {d : Int × Int × Int} {m : Int} (hm : 0 < m) : 0≤(drw d m).1∧(drw d m).1 < m:=by
 unfold drw
 split
 ·exact ⟨Int.emod_nonneg _ (by omega),Int.emod_lt_of_pos _ hm⟩
 ·exact ⟨Int.emod_nonneg _ (by omega),Int.emod_lt_of_pos _ hm⟩
inductive Part where
 | value (v : Val) | note (i : Int) | plus
def Part.v : Part→Val
 | .value v=>.tup false [.str "value",v]
 | .note i=>.tup false [.str "note",.int i]
 | .plus=>.tup false [.str "plus",.int 0,.int 1]
abbrev D:=Int × Int × Int
end Pl
end
section
set_option maxHeartbeats 4000000
namespace Pl
open Fx K
mutual
/-- plain data with fit texts -/
def pvOk : Val→Bool
 | .none=>true
 | .bool _=>true
 | .int _=>true
 | .str s=>PySem.PyData.strOk s
 | .tup _ l=>decide (l.length≤1000000) && zgQ l
 | .lst l=>decide (l.length≤1000000) && zgQ l
 | _=>false
def zgQ : List Val→Bool
 | []=>true
 | v :: l=>pvOk v && zgQ l
end
mutual
def dep : Val→Nat
 | .tup _ l=>deps l + 1
 | .lst l=>deps l + 1
 | _=>0
def deps : List Val→Nat
 | []=>0
 | v :: l=>max (dep v) (deps l)
end
mutual
/-- whether two are equal and of the same kinds -/
def zci : Val→Val→Bool
 | f,.lst l=>match f with
  | .lst k=>decide (k.length=l.length) && zgM k l
  | _=>false
 | f,.tup _ l=>match f with
  | .tup _ k=>decide (k.length=l.length) && zgM k l
  | _=>false
 | f,.bool b=>match f with
  | .bool c=>c == b
  | _=>false
 | f,.int i=>match f with
  | .int j=>decide (j=i)
  | _=>false
 | f,.none=>match f with
  | .none=>true
  | _=>false
 | f,.str s=>match f with
  | .str z=>decide (z=s)
  | _=>false
 | _,_=>false
def zgM : List Val→List Val→Bool
 | a :: k,b :: l=>zci a b && zgM k l
 | _,_=>true
end
theorem zoO {T : Tbl} {C : Callee} {h : MH} {F Du : Val} (hL : T.lent zbQ = []) : ∀ (k l : List Val),(∀ a b,(a,b)∈k.zip l→C (.fn zbQ) [.val a,.val b] h = .ok (.bool (zci a b)) [.val a,.val b] h) →
  zd1 [2,3] (.tup [.var 2,.var 3]) (evt T C .nil) (bnd (ev T C (.call zbQ (.e (.var 2) (.e (.var 3) .nil)))) fun y=>rt [y]) ((k.zip l).map fun p=>.tup false [p.1,p.2]) [.val F,.val Du,.un,.un] h
   = .ok ((k.zip l).map fun p=>.bool (zci p.1 p.2)) [.val F,.val Du,.un,.un] h
 | [],_,_=>rfl
 | _ :: _,[],_=>rfl
 | a :: k,b :: l,hc=>by
  have ih:=zoO (F:=F) (Du:=Du) hL k l fun a b m=>hc a b (List.mem_cons_of_mem _ m)
  have h0:=hc a b (List.mem_cons_self ..)
  rw [List.zip_cons_cons,List.map_cons,List.map_cons,zfJ]
  have e : asgM (.tup [.var 2,.var 3]) (.tup false [a,b]) [Slot.val F,.val Du,.un,.un] h = .ok () [.val F,.val Du,.val a,.val b] h:=rfl
  rw [e]
  have w : Fx.wipe [2,3] [Slot.val F,.val Du,.val a,.val b] = [.val F,.val Du,.un,.un]:=rfl
  simp_all! [evt_nil,hL,h0,reC_pure,w,ih]
  rfl
theorem zod : ∀ (k l : List Val),allOf ((k.zip l).map fun p=>Val.bool (zci p.1 p.2))=some (zgM k l)
 | [],[]=>rfl
 | [],_ :: _=>rfl
 | _ :: _,[]=>rfl
 | a :: k,b :: l=>by
  show (allOf ((k.zip l).map fun p=>Val.bool (zci p.1 p.2))).map _ = _
  rw [zod k l]
  simp [zgM]
theorem zip_mem {k l : List Val} {a b : Val} (m : (a,b)∈k.zip l) (hk : zgQ k=true) (hl : zgQ l=true) : pvOk a=true∧pvOk b=true∧dep b≤deps l:=by
 induction k generalizing l with
 | nil=>simp at m
 | cons x k ih =>
  cases l with
  | nil=>simp at m
  | cons y l =>
   rw [List.zip_cons_cons] at m
   have h1:=Bool.and_eq_true_iff.mp (show (pvOk x && zgQ k)=true from hk)
   have h2:=Bool.and_eq_true_iff.mp (show (pvOk y && zgQ l)=true from hl)
   rcases List.mem_cons.mp m with e | m
   ·cases e; exact ⟨h1.1,h2.1,Nat.le_max_left _ _⟩
   ·obtain ⟨a1,a2,a3⟩:=ih m h1.2 h2.2
    exact ⟨a1,a2,Nat.le_trans a3 (Nat.le_max_right _ _)⟩
theorem zl {k l : List Val} (h : k.length=l.length) (hl : k.length≤1000000) : ((k.zip l).map fun p=>Val.bool (zci p.1 p.2)).length≤line:=by
 simp [line]; omega
theorem pv_plain {v : Val} (h : pvOk v=true) : isPlain v=true:=by
 cases v <;> first | rfl | cases h
theorem ziM {l : List Val} (h : (decide (l.length≤1000000) && zgQ l)=true) : l.length≤1000000∧zgQ l=true:=by
 rw [Bool.and_eq_true_iff] at h
 exact ⟨of_decide_eq_true h.1,h.2⟩
theorem sp_same {T : Tbl} (hT : T.defs zbQ=some zeR) : ∀ (n : Nat) (f d : Val) (h : MH),dep d≤n→pvOk f=true→pvOk d=true →
  Fx.call T (n + 1) (.fn zbQ) [.val f,.val d] h = .ok (.bool (zci f d)) [.val f,.val d] h:=by
 intro n
 have hL : T.lent zbQ = []:=za0 hT
 have flat : ∀ (n : Nat) (f d : Val) (h : MH),(zba d=true)→pvOk f=true→pvOk d=true→Fx.call T (n + 1) (.fn zbQ) [.val f,.val d] h = .ok (.bool (zci f d)) [.val f,.val d] h:=by
  intro n f d h fl hf hd
  refine zdH hT rfl (fr:=[.val f,.val d,.un,.un]) (h1:=h) (σ:=[.val f,.val d,.un,.un]) ?_
  simp only [zeR]
  have hfs : (match f with | .str s=>PySem.PyData.strOk s | _=>true)=true:=by cases f <;> first | rfl | exact hf
  have hds : (match d with | .str s=>PySem.PyData.strOk s | _=>true)=true:=by cases d <;> first | rfl | exact hd
  cases d with
  | none=>cases f <;> first | (cases hf; done) | (simp only [] at hfs; simp_all! [isPlain,zdS,List.any_cons,List.any_nil,Fx.truthy,zci,peq,isPD,zaF,Bool.not_true,Bool.not_false,hfs]) <;> try rfl
  | bool b=>cases f <;> first | (cases hf; done) | (simp only [] at hfs; simp_all! [isPlain,zdS,List.any_cons,List.any_nil,Fx.truthy,zci,peq,isPD,zaF,Bool.not_true,Bool.not_false,hfs]) <;> try rfl
  | int b=>cases f <;> first | (cases hf; done) | (simp only [] at hfs; simp_all! [isPlain,zdS,List.any_cons,List.any_nil,Fx.truthy,zci,peq,isPD,zaF,Bool.not_true,Bool.not_false,hfs]) <;> try rfl
  | str s=>cases f <;> first | (cases hf; done) | (simp only [] at hfs hds; simp_all! [isPlain,zdS,List.any_cons,List.any_nil,Fx.truthy,zci,peq,isPD,zaF,Bool.not_true,Bool.not_false,hfs,hds]) <;> try rfl
  | _=>cases fl
 have row : ∀ (n : Nat) (f d : Val) (k l : List Val) (h : MH),((f = .lst k∧d = .lst l)∨∃ b b2,f = .tup b k∧d = .tup b2 l)→zgQ k=true→k.length≤1000000→(∀ a b,(a,b)∈k.zip l→Fx.call T n (.fn zbQ) [.val a,.val b] h = .ok (.bool (zci a b)) [.val a,.val b] h) →
   Fx.call T (n + 1) (.fn zbQ) [.val f,.val d] h = .ok (.bool (decide (k.length=l.length) && zgM k l)) [.val f,.val d] h:=by
  intro n f d k l h hfd hk hkl hc
  have cmp:=fun (F Du : Val)=>zoO (C:=Fx.call T n) (h:=h) (F:=F) (Du:=Du) hL k l hc
  have fr0 : ∀ F Du : Val,List.all [2,3] (freeSlot [Slot.val F,.val Du,.un,.un])=true:=fun _ _=>rfl
  have wp : ∀ F Du : Val,Fx.wipe [2,3] [Slot.val F,.val Du,.un,.un] = [.val F,.val Du,.un,.un]:=fun _ _=>rfl
  have rst : ∀ F Du : Val,restore [2,3] [Slot.val F,.val Du,.un,.un] [Slot.val F,.val Du,.un,.un] = [.val F,.val Du,.un,.un]:=fun _ _=>rfl
  refine zdH hT rfl (fr:=[.val f,.val d,.un,.un]) (h1:=h) (σ:=[.val f,.val d,.un,.un]) ?_
  simp only [zeR]
  by_cases e : k.length=l.length
  ·have z:=zl e hkl
   have hz : (List.map (fun p=>Val.bool (zci p.1 p.2)) (k.zip l)).length≤16777216:=z
   have e2 : ((k.length : Int)=(l.length : Int))=True:=by simp [e]
   rcases hfd with ⟨rfl,rfl⟩ | ⟨b,b2,rfl,rfl⟩
   ·simp_all! [isPlain,zdS,List.any_cons,List.any_nil,Fx.truthy,peq,isPD,zaF,Bool.not_true,Bool.not_false,zrn,evi_zip,zkY,zrr,cmp,fr0,wp,rst,zod,hz,e2,decide_true,e]
   ·simp_all! [isPlain,zdS,List.any_cons,List.any_nil,Fx.truthy,peq,isPD,zaF,Bool.not_true,Bool.not_false,zrn,evi_zip,zkY,zrr,cmp,fr0,wp,rst,zod,hz,e2,decide_true,e]
  ·have e2 : ((k.length : Int)=(l.length : Int))=False:=by simp; omega
   rcases hfd with ⟨rfl,rfl⟩ | ⟨b,b2,rfl,rfl⟩
   ·simp_all! [isPlain,zdS,List.any_cons,List.any_nil,Fx.truthy,peq,isPD,zaF,Bool.not_true,Bool.not_false,e2,decide_false,e]
    rfl
   ·simp_all! [isPlain,zdS,List.any_cons,List.any_nil,Fx.truthy,peq,isPD,zaF,Bool.not_true,Bool.not_false,e2,decide_false,e]
    rfl
 have odd : ∀ (n : Nat) (f d : Val) (h : MH),pvOk f=true→((∃ l,d = .lst l∧∀ k,f≠.lst k)∨∃ b l,d = .tup b l∧∀ b k,f≠.tup b k)→Fx.call T (n + 1) (.fn zbQ) [.val f,.val d] h = .ok (.bool false) [.val f,.val d] h:=by
  intro n f d h hf hd
  refine zdH hT rfl (fr:=[.val f,.val d,.un,.un]) (h1:=h) (σ:=[.val f,.val d,.un,.un]) ?_
  simp only [zeR]
  rcases hd with ⟨l,rfl,hne⟩ | ⟨b,l,rfl,hne⟩
  ·cases f <;> first | (cases hf; done) | (exact absurd rfl (hne _)) | (simp_all! [isPlain,zdS,List.any_cons,List.any_nil,Fx.truthy,peq,isPD,zaF,Bool.not_true,Bool.not_false]) <;> try rfl
  ·cases f <;> first | (cases hf; done) | (exact absurd rfl (hne _ _)) | (simp_all! [isPlain,zdS,List.any_cons,List.any_nil,Fx.truthy,peq,isPD,zaF,Bool.not_true,Bool.not_false]) <;> try rfl
 induction n with
 | zero =>
  intro f d h hn hf hd
  refine flat 0 f d h ?_ hf hd
  cases d <;> first | rfl | (simp [dep] at hn; done) | (cases hd; done)
 | succ n ih =>
  intro f d h hn hf hd
  cases d with
  | lst l =>
   by_cases e : ∃ k,f = .lst k
   ·obtain ⟨k,rfl⟩:=e
    obtain ⟨h1,h2⟩:=ziM hf
    obtain ⟨h3,h4⟩:=ziM hd
    rw [row (n + 1) _ _ k l h (.inl ⟨rfl,rfl⟩) h2 h1 fun a b m=>by
     obtain ⟨a1,a2,a3⟩:=zip_mem m h2 h4
     exact ih a b h (by have : deps l + 1≤n + 1:=hn; omega) a1 a2]
    simp only [zci]
   ·rw [odd (n + 1) f _ h hf (.inl ⟨l,rfl,fun k z=>e ⟨k,z⟩⟩)]
    cases f <;> first | (exact absurd ⟨_,rfl⟩ e) | rfl | simp only [zci]
  | tup b l =>
   by_cases e : ∃ b k,f = .tup b k
   ·obtain ⟨b2,k,rfl⟩:=e
    obtain ⟨h1,h2⟩:=ziM hf
    obtain ⟨h3,h4⟩:=ziM hd
    rw [row (n + 1) _ _ k l h (.inr ⟨_,_,rfl,rfl⟩) h2 h1 fun a b m=>by
     obtain ⟨a1,a2,a3⟩:=zip_mem m h2 h4
     exact ih a b h (by have : deps l + 1≤n + 1:=hn; omega) a1 a2]
    simp only [zci]
   ·rw [odd (n + 1) f _ h hf (.inr ⟨b,l,rfl,fun b k z=>e ⟨b,k,z⟩⟩)]
    cases f <;> first | (exact absurd ⟨_,_,rfl⟩ e) | rfl | simp only [zci]
  | none=>exact flat _ f _ h rfl hf hd
  | bool _=>exact flat _ f _ h rfl hf hd
  | int _=>exact flat _ f _ h rfl hf hd
  | str _=>exact flat _ f _ h rfl hf hd
  | _=>cases hd
mutual
theorem same_refl : ∀ {v : Val},pvOk v=true→zci v v=true
 | .none,_=>by simp [zci]
 | .bool _,_=>by simp [zci]
 | .int _,_=>by simp [zci]
 | .str _,_=>by simp [zci]
 | .tup _ l,h=>by simp [zci,zhF (ziM h).2]
 | .lst l,h=>by simp [zci,zhF (ziM h).2]
theorem zhF : ∀ {l : List Val},zgQ l=true→zgM l l=true
 | [],_=>by simp [zgM]
 | v :: l,h=>by
  have h:=Bool.and_eq_true_iff.mp (show (pvOk v && zgQ l)=true from h)
  simp [zgM,same_refl h.1,zhF h.2]
end
end Pl
end
section
set_option maxHeartbeats 4000000
namespace Pl
open Fx K
abbrev Nts:=List (Val × Val)
def zlQ (n : Nts) (i : Int) : Val:=(dget n (.int i)).getD (.int 0)
def plusF : Val→Val
 | .int j=>.int (j + 1)
 | v=>v
def zlE (p : Part) (n : Nts) : Val:=match p with
 | .value v=>v
 | .note i=>zlQ n i
 | .plus=>plusF (zlQ n 0)
def nOk (n : Nts) : Bool:=n.all fun p=>isKs p.1
inductive Row where
 | skip (i : Int) (v : Val) (n : Nat) | say (p : Part) | put (x : PySem.Str) (p : Part) | look (x : PySem.Str) (n : Int) | guard (f : Bool) | fail (p : Part) | back (p : Part)
def Row.v : Row→Val
 | .skip i v n=>.tup false [.str "skip",.int i,v,.int n]
 | .say p=>.tup false [.str "say",p.v]
 | .put x p=>.tup false [.str "put",.str x,.tup false [p.v],.int 9]
 | .look x n=>.tup false [.str "look",.str x,.tup false [],.int n]
 | .guard f=>.tup false [.str (if f then "flush" else "barrier"),.none,.tup false [],.int 9]
 | .fail p=>.tup false [.str "fail",p.v]
 | .back p=>.tup false [.str "back",p.v]
def isWish : Row→Bool
 | .put _ _=>true
 | .look _ _=>true
 | .guard _=>true
 | _=>false
end Pl
end
section
set_option maxHeartbeats 4000000
namespace Pl
open Fx K
abbrev hs (h : MH) (a : Nat) (o : Ob) : MH:={ h with objs:=h.objs.set a o }
structure Hd where
 now : List (Val × Val)
 long : Int
 taken : List Val
 words : List Val
 fin : Val
 isl : Val
abbrev Hd.fs (x : Hd) : List (Nat × Slot):=[(F_now,.own (.dct x.now)),(zcX,.val (.int x.long)),(ziC,.own (.lst x.taken)),(zd2,.own (.lst x.words)),(zbc,.val x.fin),(zel,.val x.isl)]
abbrev Hd.ob (x : Hd) : Ob:=.inst 0 x.fs
section
variable {h : MH} {a : Nat} {c : Nat} {fs : List (Nat × Slot)}
theorem zfk (ha : h.objs[a]? = some (.inst c fs)) (f : Nat) : fieldOf h a f=zkD fs f:=by
 unfold fieldOf; rw [ha]
theorem mo_at {T : Tbl} {m : Nat} (ha : h.objs[a]? = some (.inst c fs)) : ziO T h (.ref a) m=T.meths c m:=by
 unfold ziO; dsimp only; rw [ha]
theorem de_at (ha : h.objs[a]? = some (.inst c fs)) : zbN h (.ref a) = .ref a:=by
 unfold zbN; dsimp only; rw [ha]
end
section
variable {T : Tbl} {n : Nat} {h : MH} {a : Nat} {x : Hd}
mutual
def isVl : Val→Bool
 | .none=>true
 | .bool _=>true
 | .int _=>true
 | .str _=>true
 | .tup b l=>decide (l.length≤1000∧b=false) && isVls l
 | _=>false
def isVls : List Val→Bool
 | []=>true
 | v :: l=>isVl v && isVls l
end
def vOk (v : Val) : Prop:=isVl v=true∧dep v≤4∧pvOk v=true
end
end Pl
end
section
set_option maxHeartbeats 4000000
namespace Pl
open Fx K
structure Go (x : Hd) : Prop where
 fin : x.fin = .none
 keys : nOk x.now=true
 nl : x.now.length < 1000
 tl : (x.taken.length : Int) < x.long
 tk : x.taken.length < 1000
 wl : x.words.length < 1000
section
variable {T : Tbl} {n : Nat} {h : MH} {a : Nat} {x : Hd}
def Hd.note (x : Hd) (w ans : Val) : Hd:={ x with taken:=x.taken ++ [.tup false [w,ans]] }
def Hd.keep (x : Hd) (s : PySem.Str) (v : Val) : Hd:={ x with now:=dput x.now (.str s) v }
end
end Pl
end
section
set_option maxHeartbeats 4000000
namespace Pl
open Fx K
section
variable {T : Tbl} {n : Nat} {h : MH} {a : Nat} {x : Hd}
def Hd.tell (x : Hd) (v : Val) : Hd:={ x with words:=x.words ++ [.tup false [.int x.taken.length,v]] }
def Hd.failed (x : Hd) (v : Val) : Hd:={ x with fin:=.tup false [.str "failed",v] }
def Hd.wish (x : Hd) (r : Row) (n : Nts) : Hd × Val:=match r with
 | .put s p=>((x.note (.tup false [.str "put",.str s,zlE p n]) .none).keep s (zlE p n),.none)
 | .look s _=>let v:=(dget x.now (.str s)).getD .none; (x.note (.tup false [.str "look",.str s]) v,v)
 | .guard f=>(x.note (.tup false [.str (if f then "flush" else "barrier")]) .none,.none)
 | _=>(x,.none)
def rowOk (now : List (Val × Val)) : Row→Prop
 | .put s p=>(dget now (.str s)).isSome=true
 | .look s _=>(dget now (.str s)).isSome=true
 | _=>True
end
end Pl
end
section
set_option maxHeartbeats 4000000
namespace Pl
open Fx K
inductive Fin where
 | out | back (v : Val) | fail (v : Val)
def Row.key : Row→Int
 | .look _ n=>n
 | _=>9
def zoK (r : Row) (t : Nat) (nt : Nts) (x : Hd) : (Nat × Nts × Hd) ⊕ Fin:=match r with
 | .say p=>.inl (t + 1,nt,x.tell (zlE p nt))
 | .fail p=>.inr (.fail (zlE p nt))
 | .back p=>.inr (.back (zlE p nt))
 | .skip i v n=>.inl (if zci (zlQ nt i) v then t + 1 + n else t + 1,nt,x)
 | r=>.inl (t + 1,dput nt (.int r.key) (x.wish r nt).2,(x.wish r nt).1)
def goF (rows : List Row) : Nat→Nat→Nts→Hd→Hd × Fin
 | 0,_,_,x=>(x,.out)
 | f + 1,t,nt,x=>match rows[t]? with
  | none=>(x,.out)
  | some r=>match zoK r t nt x with
   | .inl (t',nt',x')=>goF rows f t' nt' x'
   | .inr e=>(x,e)
def zpe : Part→Prop
 | .value v=>vOk v
 | _=>True
def rowV : Row→Prop
 | .skip _ v n=>vOk v∧1≤n∧n≤2
 | .say p=>zpe p
 | .put _ p=>zpe p
 | .fail p=>zpe p
 | .back p=>zpe p
 | _=>True
structure Iv (rows : List Row) (t : Nat) (nt : Nts) (x : Hd) : Prop where
 rl : rows.length≤30
 rv : ∀ r∈rows,rowV r∧rowOk x.now r
 tl : t≤rows.length + 2
 fin : x.fin = .none
 long : (31 : Int)≤x.long
 keys : nOk x.now=true
 nl : x.now.length≤10
 vals : ∀ p∈x.now,vOk p.2
 tk : x.taken.length≤t + 1
 wl : x.words.length≤t
 nk : nOk nt=true
 nn : nt.length≤t
 nv : ∀ p∈nt,vOk p.2
theorem Iv.go {rows : List Row} {t : Nat} {nt : Nts} {x : Hd} (i : Iv rows t nt x) (h : t < rows.length) : Go x:=by
 have:=i.rl; have:=i.tk; have:=i.wl; have:=i.nl
 exact ⟨i.fin,i.keys,by omega,by have:=i.long; omega,by omega,by omega⟩
theorem zo7 {l : List (Val × Val)} {k v : Val} (h : dget l k=some v) : ∃ p∈l,p.2=v:=by
 unfold dget at h
 cases q : l.find? fun p=>peq p.1 k with
 | none=>rw [q] at h; cases h
 | some p =>
  rw [q] at h; cases h
  exact ⟨p,List.mem_of_find?_eq_some q,rfl⟩
theorem vOk_int (i : Int) : vOk (.int i):=⟨rfl,Nat.zero_le _,rfl⟩
theorem zjv : vOk .none:=⟨rfl,Nat.zero_le _,rfl⟩
theorem noteF_ok {nt : Nts} (h : ∀ p∈nt,vOk p.2) (i : Int) : vOk (zlQ nt i):=by
 unfold zlQ
 cases q : dget nt (.int i) with
 | none=>exact vOk_int 0
 | some v =>
  obtain ⟨p,m,rfl⟩:=zo7 q
  exact h p m
theorem zn4 {nt : Nts} (h : ∀ p∈nt,vOk p.2) {p : Part} (hp : zpe p) : vOk (zlE p nt):=by
 cases p with
 | value v=>exact hp
 | note i=>exact noteF_ok h i
 | plus =>
  have k:=noteF_ok h 0
  show vOk (plusF (zlQ nt 0))
  cases q : zlQ nt 0 with
  | int j=>exact vOk_int _
  | _=>rw [q] at k; exact k
theorem zjF {l : List (Val × Val)} {k v : Val} {P : Val→Prop} (h : ∀ p∈l,P p.2) (hv : P v) : ∀ p∈dput l k v,P p.2:=by
 intro p m
 unfold dput at m
 split at m
 ·obtain ⟨q,hq,e⟩:=List.mem_map.mp m
  by_cases z : peq q.1 k=true
  ·rw [if_pos z] at e; subst e; exact hv
  ·rw [if_neg z] at e; subst e; exact h q hq
 ·rcases List.mem_append.mp m with m | m
  ·exact h p m
  ·simp at m; subst m; exact hv
theorem zhn {l : List (Val × Val)} {k v : Val} (h : nOk l=true) (hk : isKs k=true) : nOk (dput l k v)=true:=by
 unfold nOk at h ⊢
 rw [List.all_eq_true] at h ⊢
 intro p m
 unfold dput at m
 split at m
 ·obtain ⟨q,hq,e⟩:=List.mem_map.mp m
  by_cases z : peq q.1 k=true
  ·rw [if_pos z] at e; subst e; exact h q hq
  ·rw [if_neg z] at e; subst e; exact h q hq
 ·rcases List.mem_append.mp m with m | m
  ·exact h p m
  ·simp at m; subst m; exact hk
theorem zo6 {l : List (Val × Val)} {k v : Val} : (dput l k v).length≤l.length + 1:=by
 unfold dput
 split
 ·simp
 ·simp
theorem zjG {l : List (Val × Val)} {k : Val} : (dget l k).isSome=l.any fun p=>peq p.1 k:=by
 unfold dget
 induction l with
 | nil=>rfl
 | cons p l ih =>
  rw [List.find?_cons,List.any_cons]
  cases q : peq p.1 k with
  | true=>rfl
  | false=>simpa [q] using ih
theorem dput_len' {l : List (Val × Val)} {k v : Val} (h : (dget l k).isSome=true) : (dput l k v).length=l.length:=by
 rw [zjG] at h
 unfold dput
 rw [if_pos h]; simp
theorem zpU {l : List (Val × Val)} {k v j : Val} (h : (dget l j).isSome=true) : (dget (dput l k v) j).isSome=true:=by
 rw [zjG,List.any_eq_true] at h ⊢
 obtain ⟨p,m,e⟩:=h
 unfold dput
 split
 ·refine ⟨if peq p.1 k then (p.1,v) else p,List.mem_map.mpr ⟨p,m,rfl⟩,?_⟩
  split <;> exact e
 ·exact ⟨p,List.mem_append_left _ m,e⟩
theorem rowOk_put {now : List (Val × Val)} {k v : Val} {r : Row} (h : rowOk now r) : rowOk (dput now k v) r:=by
 cases r with
 | put s p=>exact zpU h
 | look s i=>exact zpU h
 | _=>trivial
end Pl
end
section
set_option maxHeartbeats 4000000
namespace Pl
open Fx K
theorem Iv.step {rows : List Row} {t t' : Nat} {nt nt' : Nts} {x x' : Hd} {r : Row} (i : Iv rows t nt x) (hr : rows[t]? = some r) (e : zoK r t nt x = .inl (t',nt',x')) : Iv rows t' nt' x'∧t < t':=by
 have ht : t < rows.length:=(List.getElem?_eq_some_iff.mp hr).1
 have hm : r∈rows:=List.mem_of_getElem? hr
 obtain ⟨rv,ro⟩:=i.rv r hm
 obtain ⟨rl,ri,tl,fin,long,keys,nl,vals,tk,wl,nk,nn,nv⟩:=i
 cases r with
 | say p =>
  cases e
  exact ⟨⟨rl,ri,by omega,fin,long,keys,nl,vals,by show x.taken.length≤t + 1 + 1; omega,by show (x.words ++ [_]).length≤t + 1; simp; omega,nk,by omega,nv⟩,by omega⟩
 | fail p=>cases e
 | back p=>cases e
 | skip j v n =>
  have e : Sum.inl (if zci (zlQ nt j) v then t + 1 + n else t + 1,nt,x)=(Sum.inl (t',nt',x') : (Nat × Nts × Hd) ⊕ Fin):=e
  have h1:=rv.2.1
  have h2:=rv.2.2
  by_cases q : zci (zlQ nt j) v=true
  ·rw [if_pos q] at e; cases e
   exact ⟨⟨rl,ri,by omega,fin,long,keys,nl,vals,by omega,by omega,nk,by omega,nv⟩,by omega⟩
  ·rw [if_neg q] at e; cases e
   exact ⟨⟨rl,ri,by omega,fin,long,keys,nl,vals,by omega,by omega,nk,by omega,nv⟩,by omega⟩
 | put s p =>
  cases e
  have hv:=zn4 nv rv
  refine ⟨⟨rl,fun r m=>⟨(ri r m).1,rowOk_put (ri r m).2⟩,by omega,fin,long,zhn keys rfl,?_,zjF vals hv,?_,?_,zhn nk rfl,?_,zjF nv zjv⟩,by omega⟩
  ·show (dput x.now _ _).length≤10
   rw [dput_len' ro]; exact nl
  ·show (x.taken ++ [_]).length≤t + 1 + 1
   simp; omega
  ·show x.words.length≤t + 1
   omega
  ·exact Nat.le_trans zo6 (by omega)
 | look s k =>
  cases e
  obtain ⟨v,hv⟩:=Option.isSome_iff_exists.mp ro
  have hv2 : vOk ((dget x.now (.str s)).getD .none):=by
   rw [hv]
   obtain ⟨p,m,e⟩:=zo7 hv
   exact e ▸ vals p m
  refine ⟨⟨rl,ri,by omega,fin,long,keys,nl,vals,?_,?_,zhn nk rfl,?_,zjF nv hv2⟩,by omega⟩
  ·show (x.taken ++ [_]).length≤t + 1 + 1
   simp; omega
  ·show x.words.length≤t + 1
   omega
  ·exact Nat.le_trans zo6 (by omega)
 | guard f =>
  cases e
  refine ⟨⟨rl,ri,by omega,fin,long,keys,nl,vals,?_,?_,zhn nk rfl,?_,zjF nv zjv⟩,by omega⟩
  ·show (x.taken ++ [_]).length≤t + 1 + 1
   simp; omega
  ·show x.words.length≤t + 1
   omega
  ·exact Nat.le_trans zo6 (by omega)
theorem zoR : peq (.str "say") (.str "say")=true:=by decide
theorem zmD : peq (.str "say") (.str "fail")=false:=by decide
theorem zmE : peq (.str "say") (.str "back")=false:=by decide
theorem zmB : peq (.str "say") (.str "skip")=false:=by decide
theorem zoS : peq (.str "say") (.str "put")=false:=by decide
theorem zmC : peq (.str "say") (.str "look")=false:=by decide
theorem zmL : peq (.str "fail") (.str "say")=false:=by decide
theorem zka : peq (.str "fail") (.str "fail")=true:=by decide
theorem zkb : peq (.str "fail") (.str "back")=false:=by decide
theorem zk8 : peq (.str "fail") (.str "skip")=false:=by decide
theorem zmM : peq (.str "fail") (.str "put")=false:=by decide
theorem zk9 : peq (.str "fail") (.str "look")=false:=by decide
theorem zmN : peq (.str "back") (.str "say")=false:=by decide
theorem zke : peq (.str "back") (.str "fail")=false:=by decide
theorem zkf : peq (.str "back") (.str "back")=true:=by decide
theorem zkc : peq (.str "back") (.str "skip")=false:=by decide
theorem zmO : peq (.str "back") (.str "put")=false:=by decide
theorem zkd : peq (.str "back") (.str "look")=false:=by decide
theorem zmz : peq (.str "skip") (.str "say")=false:=by decide
theorem zk0 : peq (.str "skip") (.str "fail")=false:=by decide
theorem zk1 : peq (.str "skip") (.str "back")=false:=by decide
theorem zjY : peq (.str "skip") (.str "skip")=true:=by decide
theorem zmA : peq (.str "skip") (.str "put")=false:=by decide
theorem zjZ : peq (.str "skip") (.str "look")=false:=by decide
theorem zoT : peq (.str "put") (.str "say")=false:=by decide
theorem zmH : peq (.str "put") (.str "fail")=false:=by decide
theorem zmI : peq (.str "put") (.str "back")=false:=by decide
theorem zmF : peq (.str "put") (.str "skip")=false:=by decide
theorem zoU : peq (.str "put") (.str "put")=true:=by decide
theorem zmG : peq (.str "put") (.str "look")=false:=by decide
theorem zmJ : peq (.str "look") (.str "say")=false:=by decide
theorem zk4 : peq (.str "look") (.str "fail")=false:=by decide
theorem zk5 : peq (.str "look") (.str "back")=false:=by decide
theorem zk2 : peq (.str "look") (.str "skip")=false:=by decide
theorem zmK : peq (.str "look") (.str "put")=false:=by decide
theorem zk3 : peq (.str "look") (.str "look")=true:=by decide
theorem zgO : peq (.str "barrier") (.str "say")=false:=by decide
theorem zg6 : peq (.str "barrier") (.str "fail")=false:=by decide
theorem zg7 : peq (.str "barrier") (.str "back")=false:=by decide
theorem zg4 : peq (.str "barrier") (.str "skip")=false:=by decide
theorem zgP : peq (.str "barrier") (.str "put")=false:=by decide
theorem zg5 : peq (.str "barrier") (.str "look")=false:=by decide
theorem zk6 : peq (.str "flush") (.str "say")=false:=by decide
theorem ziK : peq (.str "flush") (.str "fail")=false:=by decide
theorem ziL : peq (.str "flush") (.str "back")=false:=by decide
theorem ziI : peq (.str "flush") (.str "skip")=false:=by decide
theorem zk7 : peq (.str "flush") (.str "put")=false:=by decide
theorem ziJ : peq (.str "flush") (.str "look")=false:=by decide
theorem pd_say : isPD zaF (.str "say")=true:=by decide +kernel
theorem pd_fail : isPD zaF (.str "fail")=true:=by decide +kernel
theorem pd_back : isPD zaF (.str "back")=true:=by decide +kernel
theorem pd_skip : isPD zaF (.str "skip")=true:=by decide +kernel
theorem pd_put : isPD zaF (.str "put")=true:=by decide +kernel
theorem pd_look : isPD zaF (.str "look")=true:=by decide +kernel
theorem zmQ : isPD zaF (.str "barrier")=true:=by decide +kernel
theorem pd_flush : isPD zaF (.str "flush")=true:=by decide +kernel
theorem ixl_2_0 : ixAt 2 0=some 0:=rfl
theorem ixl_2_1 : ixAt 2 1=some 1:=rfl
theorem ixl_3_0 : ixAt 3 0=some 0:=rfl
theorem ixl_3_1 : ixAt 3 1=some 1:=rfl
theorem ixl_3_2 : ixAt 3 2=some 2:=rfl
theorem ixl_4_0 : ixAt 4 0=some 0:=rfl
theorem ixl_4_1 : ixAt 4 1=some 1:=rfl
theorem ixl_4_2 : ixAt 4 2=some 2:=rfl
theorem ixl_4_3 : ixAt 4 3=some 3:=rfl
end Pl
end
local macro_rules | `(tactic| dsimp! [$ls,*])=>`(tactic| simp_all! [Pl.zoR,Pl.zmD,Pl.zmE,Pl.zmB,Pl.zoS,Pl.zmC,Pl.zmL,Pl.zka,Pl.zkb,Pl.zk8,Pl.zmM,Pl.zk9,Pl.zmN,Pl.zke,Pl.zkf,Pl.zkc,Pl.zmO,Pl.zkd,Pl.zmz,Pl.zk0,Pl.zk1,Pl.zjY,Pl.zmA,Pl.zjZ,Pl.zoT,Pl.zmH,Pl.zmI,Pl.zmF,Pl.zoU,Pl.zmG,Pl.zmJ,Pl.zk4,Pl.zk5,Pl.zk2,Pl.zmK,Pl.zk3,Pl.zgO,Pl.zg6,Pl.zg7,Pl.zg4,Pl.zgP,Pl.zg5,Pl.zk6,Pl.ziK,Pl.ziL,Pl.ziI,Pl.zk7,Pl.ziJ,Pl.pd_say,Pl.pd_fail,Pl.pd_back,Pl.pd_skip,Pl.pd_put,Pl.pd_look,Pl.zmQ,Pl.pd_flush,Pl.ixl_2_0,Pl.ixl_2_1,Pl.ixl_3_0,Pl.ixl_3_1,Pl.ixl_3_2,Pl.ixl_4_0,Pl.ixl_4_1,Pl.ixl_4_2,Pl.ixl_4_3,Bool.and_self,Fx.truthy,$ls,*])
local macro_rules | `(tactic| dsimp!)=>`(tactic| dsimp! [])

section
namespace Pl
open Fx K
end Pl
end
section
set_option maxHeartbeats 4000000
namespace Pl
open Fx K
def Fin.res (e : Fin) (σ : Fr) (h : MH) : SRes:=match e with
 | .out=>.nx σ h
 | .back v=>.ret v σ h
 | .fail _=>.exn zcx Option.none σ h
section
variable {T : Tbl} {n : Nat} {h : MH} {a : Nat} {x : Hd} {rows : List Row} {t : Nat} {nt : Nts}
def Fin.call (e : Fin) (outs : List Slot) (h : MH) : CRes:=match e with
 | .out=>.ok .none outs h
 | .back v=>.ok v outs h
 | .fail _=>.exn zcx Option.none outs h
end
end Pl
end
section
set_option maxHeartbeats 4000000
namespace Pl
open Fx K
def Fin.v : Fin→Val
 | .out=>.tup false [.str "told",.none]
 | .back v=>.tup false [.str "told",v]
 | .fail v=>.tup false [.str "failed",v]
def junk (s : Slot) : Prop:=s = .un∨∃ v,s = .val v
end Pl
end
section
set_option maxHeartbeats 4000000
namespace Pl
open Fx K
def hdS : Stms→Stm
 | .cons s _=>s
 | _=>.pass
def tlS : Stms→Stms
 | .cons _ r=>r
 | _=>.nil
def isPutR : Row→Bool
 | .put _ _=>true
 | _=>false
end Pl
end
section
set_option maxHeartbeats 4000000
namespace Pl
open Fx K
section
variable {T : Tbl} {n : Nat} {h : MH} {a : Nat}
theorem sp_source (hT : T.defs zeD=some zaQ) {ns : List Int} {t : Nat} :
  ∃ d : D,Fx.call T (n + 1) (.fn zeD) [.val (.lst (ns.map Val.int)),.val (.int (t : Int))] h = .ok (D3 d) [.val (.lst (ns.map Val.int)),.val (.int (t : Int))] h:=by
 have p18 : (10 : Int) ^ (18 : Nat) = 1000000000000000000:=by decide
 have c1 : ((10 : Int).natAbs < 2 ^ 64)=True:=by simp
 have s7 : small 7=true:=by decide
 obtain ⟨c,hc⟩ : ∃ c : Int,exs T (Fx.call T n) (.cons (hdS zaQ.body) .nil) [.val (.lst (ns.map Val.int)),.val (.int (t : Int)),.un] h = .nx [.val (.lst (ns.map Val.int)),.val (.int (t : Int)),.val (.int c)] h:=by
  have L : ((ns.map Val.int).length : Int)=(ns.length : Int):=by simp
  by_cases e : t < ns.length
  ·refine ⟨ns[t],?_⟩
   have e2 : ((t : Int) < ((ns.map Val.int).length : Int))=True:=by simp; omega
   have ix : (ixAt (ns.map Val.int).length (t : Int)).bind (fun k=>(ns.map Val.int)[k]?)=some (.int ns[t]):=by
    unfold ixAt
    rw [if_pos (by omega),if_pos (by simp; omega)]
    show (ns.map Val.int)[((t : Int)).toNat]? = _
    rw [Int.toNat_natCast,List.getElem?_map,List.getElem?_eq_getElem e]; rfl
   simp only [hdS,zaQ]
   dsimp! [e2,decide_true,ix]
  ·refine ⟨7 * (t : Int) + 5,?_⟩
   have e2 : ((t : Int) < ((ns.map Val.int).length : Int))=False:=by simp; omega
   simp only [hdS,zaQ]
   dsimp! [e2,decide_false,s7,Bool.true_or]
 have go : ∀ σ h,exs T (Fx.call T n) zaQ.body σ h=rs (exs T (Fx.call T n) (.cons (hdS zaQ.body) .nil) σ h) (exs T (Fx.call T n) (tlS zaQ.body)):=fun σ h=>by
  show rs (ex T (Fx.call T n) (hdS zaQ.body) σ h) _=rs (rs (ex T (Fx.call T n) (hdS zaQ.body) σ h) _) _
  cases ex T (Fx.call T n) (hdS zaQ.body) σ h <;> rfl
 have h1 : ((0 : Int) < 2147483647)=True:=by simp
 by_cases e : c ≥ 1000000000000000000
 ·refine ⟨(c,c % 2147483647,0),?_⟩
  refine zdH hT rfl (fr:=[.val (.lst (ns.map Val.int)),.val (.int (t : Int)),.un]) (h1:=h) (σ:=[.val (.lst (ns.map Val.int)),.val (.int (t : Int)),.val (.int c)]) ?_
  have e' : (1000000000000000000≤c)=True:=by simp; omega
  rw [go,hc,rs_nx]
  simp only [tlS,zaQ,D3]
  dsimp! [p18,c1,true_and,e',decide_true,h1]
 ·refine ⟨(0,c % 2147483647,0),?_⟩
  refine zdH hT rfl (fr:=[.val (.lst (ns.map Val.int)),.val (.int (t : Int)),.un]) (h1:=h) (σ:=[.val (.lst (ns.map Val.int)),.val (.int (t : Int)),.val (.int c)]) ?_
  have e' : (1000000000000000000≤c)=False:=by simp; omega
  rw [go,hc,rs_nx]
  simp only [tlS,zaQ,D3]
  dsimp! [p18,c1,true_and,e',decide_false,h1]
end
end Pl
end
section
set_option maxHeartbeats 4000000
namespace Pl
open Fx K
section
variable {T : Tbl} {n : Nat} {h : MH} {a c : Nat} {x : Hd} {rows : List Row}
abbrev gH (rows : List Row) (x : Hd) : Hd × Fin:=goF rows rows.length 0 [] x
end
end Pl
end
section
set_option maxHeartbeats 4000000
namespace Pl
open Fx K
def kb {α β γ : Type} (f : α→Fr→MH→Res β) (g : β→Fr→MH→Res γ) : α→Fr→MH→Res γ:=fun a σ h=>rb (f a σ h) g
def ko {α β : Type} (f : α→Fr→MH→Res β) (g : β→Fr→MH→SRes) : α→Fr→MH→SRes:=fun a σ h=>ro (f a σ h) g
def kr {α : Type} (f : α→Fr→MH→SRes) (g : Fr→MH→SRes) : α→Fr→MH→SRes:=fun a σ h=>rs (f a σ h) g
def ks (f g : Fr→MH→SRes) : Fr→MH→SRes:=fun σ h=>rs (f σ h) g
def rx {α β : Type} (m : Res α) (f : α→Fr→MH→Res β) : Res β:=match m with
 | .ok a σ h=>f a σ h
 | _=>.stuck
def kx {α β : Type} (own : List Nat) (σ₀ : Fr) (f : α→Fr→MH→Res β) : α→Fr→MH→Res β:=fun a σ h=>blkR own σ₀ (f a σ h)
def rxo {α : Type} (m : Res α) (f : α→Fr→MH→SRes) : SRes:=match m with
 | .ok a σ h=>f a σ h
 | _=>.stuck
section
variable {α β γ : Type} {σ : Fr} {h : MH}
theorem kb_a {a : α} {f : α→Fr→MH→Res β} {g : β→Fr→MH→Res γ} : kb f g a σ h=rb (f a σ h) g:=rfl
theorem ko_a {a : α} {f : α→Fr→MH→Res β} {g : β→Fr→MH→SRes} : ko f g a σ h=ro (f a σ h) g:=rfl
theorem kr_a {a : α} {f : α→Fr→MH→SRes} {g : Fr→MH→SRes} : kr f g a σ h=rs (f a σ h) g:=rfl
theorem ks_a {f g : Fr→MH→SRes} : ks f g σ h=rs (f σ h) g:=rfl
theorem kx_a {own σ₀} {a : α} {f : α→Fr→MH→Res β} : kx own σ₀ f a σ h=blkR own σ₀ (f a σ h):=rfl
theorem rb_rb {m : Res α} {f : α→Fr→MH→Res β} {g : β→Fr→MH→Res γ} : rb (rb m f) g=rb m (kb f g):=by cases m <;> rfl
theorem ro_rb {m : Res α} {f : α→Fr→MH→Res β} {g : β→Fr→MH→SRes} : ro (rb m f) g=ro m (ko f g):=by cases m <;> rfl
theorem rs_ro {m : Res α} {f : α→Fr→MH→SRes} {g : Fr→MH→SRes} : rs (ro m f) g=ro m (kr f g):=by cases m <;> rfl
theorem rs_rs {m : SRes} {f g : Fr→MH→SRes} : rs (rs m f) g=rs m (ks f g):=by cases m <;> rfl
theorem blk_rb {own σ₀} {m : Res α} {f : α→Fr→MH→Res β} : blkR own σ₀ (rb m f)=rx m (kx own σ₀ f):=by cases m <;> rfl
theorem rx_ok {a : α} {f : α→Fr→MH→Res β} : rx (.ok a σ h) f=f a σ h:=rfl
theorem rxo_ok {a : α} {f : α→Fr→MH→SRes} : rxo (.ok a σ h) f=f a σ h:=rfl
theorem rb_rx {m : Res α} {f : α→Fr→MH→Res β} {g : β→Fr→MH→Res γ} : rb (rx m f) g=rx m (kb f g):=by cases m <;> rfl
theorem ro_rx {m : Res α} {f : α→Fr→MH→Res β} {g : β→Fr→MH→SRes} : ro (rx m f) g=rxo m (ko f g):=by cases m <;> rfl
theorem rs_rxo {m : Res α} {f : α→Fr→MH→SRes} {g : Fr→MH→SRes} : rs (rxo m f) g=rxo m (kr f g):=by cases m <;> rfl
end
def RetS0 (Q : Val→Fr→MH→Prop) : SRes→Prop
 | .ret v σ h=>Q v σ h
 | .nx σ h=>Q .none σ h
 | _=>False
structure RetS (Q : Val→Fr→MH→Prop) (r : SRes) : Prop where
 w : RetS0 Q r
theorem RetS_ret {Q v σ h} : RetS Q (.ret v σ h)=Q v σ h:=propext ⟨fun z=>z.w,fun z=>⟨z⟩⟩
theorem RetS_nx {Q σ h} : RetS Q (.nx σ h)=Q .none σ h:=propext ⟨fun z=>z.w,fun z=>⟨z⟩⟩
def turnQ0 (J : Fr→MH→Prop) (Qk : Fr→MH→Prop) (Q : SRes→Prop) : SRes→Prop
 | .nx σ h=>J σ h
 | .cont σ h=>J σ h
 | .brk σ h=>Qk σ h
 | r=>Q r
structure turnQ (J : Fr→MH→Prop) (Qk : Fr→MH→Prop) (Q : SRes→Prop) (r : SRes) : Prop where
 w : turnQ0 J Qk Q r
theorem turnQ_nx {J Qk Q σ h} : turnQ J Qk Q (.nx σ h)=J σ h:=propext ⟨fun z=>z.w,fun z=>⟨z⟩⟩
theorem turnQ_cont {J Qk Q σ h} : turnQ J Qk Q (.cont σ h)=J σ h:=propext ⟨fun z=>z.w,fun z=>⟨z⟩⟩
theorem turnQ_brk {J Qk Q σ h} : turnQ J Qk Q (.brk σ h)=Qk σ h:=propext ⟨fun z=>z.w,fun z=>⟨z⟩⟩
theorem turnQ_ret {J Qk Q v σ h} : turnQ J Qk Q (.ret v σ h)=Q (.ret v σ h):=propext ⟨fun z=>z.w,fun z=>⟨z⟩⟩
def asS (p : Pat) (v : Val) (b : Fr→MH→SRes) : Fr→MH→SRes:=fun σ h=>match asg p v σ h with
 | Option.none=>.stuck
 | some (σ',h')=>b σ' h'
def asSs (ps : List Pat) (vs : List Val) (b : Fr→MH→SRes) : Fr→MH→SRes:=fun σ h=>match asgs ps vs σ h with
 | Option.none=>.stuck
 | some (σ',h')=>b σ' h'
section
variable {σ : Fr} {h : MH} {b : Fr→MH→SRes}
theorem asS_var {i v} : asS (.var i) v b σ h=if okS σ[i]? then b (σ.set i (.val v)) h else .stuck:=by
 show (match (if zbU σ i then some (σ.set i (.val v),h) else Option.none) with | Option.none=>_ | some (σ',h')=>_) = _
 rw [znv]
 cases okS σ[i]? <;> rfl
theorem asS_tup {ps z vs} : asS (.tup ps) (.tup z vs) b σ h=asSs ps vs b σ h:=rfl
theorem asSs_nil : asSs [] [] b σ h=b σ h:=rfl
theorem asSs_cons {p ps v vs} : asSs (p :: ps) (v :: vs) b σ h=asS p v (asSs ps vs b) σ h:=by
 show (match (match asg p v σ h with | some (σ',h')=>asgs ps vs σ' h' | Option.none=>Option.none) with | Option.none=>_ | some (σ',h')=>_)=(match asg p v σ h with | Option.none=>_ | some (σ',h')=>_)
 cases asg p v σ h <;> rfl
end
def asRs (ps : List Pat) (vs : List Val) : Fr→MH→Res Unit:=fun σ h=>match asgs ps vs σ h with
 | Option.none=>.stuck
 | some (σ',h')=>.ok () σ' h'
section
variable {σ : Fr} {h : MH}
theorem asgM_t {ps z vs} : asgM (.tup ps) (.tup z vs) σ h=asRs ps vs σ h:=by
 show (match asgs ps vs σ h with | some (σ',h')=>Res.ok () σ' h' | Option.none=>.stuck)=(match asgs ps vs σ h with | Option.none=>_ | some (σ',h')=>_)
 cases asgs ps vs σ h <;> rfl
theorem asRs_nil : asRs [] [] σ h = .ok () σ h:=rfl
theorem asRs_cons {p ps v vs} : asRs (p :: ps) (v :: vs) σ h=rb (asgM p v σ h) fun _=>asRs ps vs:=by
 show (match (match asg p v σ h with | some (σ',h')=>asgs ps vs σ' h' | Option.none=>Option.none) with | Option.none=>_ | some (σ',h')=>_)=rb (match asg p v σ h with | some (σ',h')=>_ | Option.none=>_) _
 cases asg p v σ h <;> rfl
end
theorem for_any {Q : SRes→Prop} {A : Type} {enc : A→Val} {l : List A} {p : Pat} {b : Fr→MH→SRes} {k : Fr→MH→SRes} {σ : Fr} {h : MH} (I : List A→Fr→MH→Prop)
  (h0 : I [] σ h) (hs : ∀ pre a post σ h,l=pre ++ a :: post→I pre σ h→turnQ (I (pre ++ [a])) (fun σ h=>Q (k σ h)) (fun r=>Q (rs r k)) (asS p (enc a) b σ h))
  (hk : ∀ σ h,I l σ h→Q (k σ h)) : Q (rs (forL p b (l.map enc) σ h) k):=by
 have go : ∀ (post pre : List A) (σ : Fr) (h : MH),l=pre ++ post→I pre σ h→Q (rs (forL p b (post.map enc) σ h) k):=by
  intro post
  induction post with
  | nil=>intro pre σ h e i; rw [List.append_nil] at e; subst e; exact hk σ h i
  | cons a post ih =>
   intro pre σ h e i
   have z:=(hs pre a post σ h e i).w
   rw [List.map_cons,forL_cons]
   unfold asS at z
   cases q : asg p (enc a) σ h with
   | none=>rw [q] at z; exact z
   | some w =>
    rw [q] at z
    obtain ⟨σ',h'⟩:=w
    dsimp only at z ⊢
    cases q2 : b σ' h' with
    | nx σ2 h2=>rw [q2] at z; exact ih (pre ++ [a]) σ2 h2 (by rw [e]; simp) z
    | cont σ2 h2=>rw [q2] at z; exact ih (pre ++ [a]) σ2 h2 (by rw [e]; simp) z
    | brk σ2 h2=>rw [q2] at z; exact z
    | ret v σ2 h2=>rw [q2] at z; exact z
    | exn c x σ2 h2=>rw [q2] at z; exact z
    | stuck=>rw [q2] at z; exact z
 exact go l [] σ h rfl h0
open Classical in
def whS (t : Fr→MH→Res Bool) (b : Fr→MH→SRes) (σ : Fr) (h : MH) : SRes:=ro (t σ h) fun c=>if c then b else fun σ h=>.brk σ h
def cpS {α : Type} (p : Pat) (t : Fr→MH→Res Bool) (f : Fr→MH→Res (List α)) (v : Val) (σ : Fr) (h : MH) : Res (List α) :=
 rb (asgM p v σ h) fun _=>bnd t fun b=>if b then f else rt []
def ResQ0 {α : Type} (Q : α→Fr→MH→Prop) : Res α→Prop
 | .ok a σ h=>Q a σ h
 | _=>False
structure ResQ {α : Type} (Q : α→Fr→MH→Prop) (r : Res α) : Prop where
 w : ResQ0 Q r
theorem ResQ_ok {α : Type} {Q : α→Fr→MH→Prop} {a σ h} : ResQ Q (.ok a σ h)=Q a σ h:=propext ⟨fun z=>z.w,fun z=>⟨z⟩⟩
theorem ResQ_ex {α : Type} {Q : α→Fr→MH→Prop} {r : Res α} (z : ResQ Q r) : ∃ a σ h,r = .ok a σ h∧Q a σ h:=by
 cases r with
 | ok a σ h=>exact ⟨a,σ,h,rfl,z.w⟩
 | exn=>exact z.w.elim
 | stuck=>exact z.w.elim
theorem compL_go {α A : Type} {enc : A→Val} {l : List A} {own p} {t : Fr→MH→Res Bool} {f : Fr→MH→Res (List α)} {σ : Fr} {h : MH} (I : List A→List α→MH→Prop) (h0 : I [] [] h)
  (hs : ∀ pre a post acc h,l=pre ++ a :: post→I pre acc h→ResQ (fun ys σ' h'=>Fx.wipe own σ' = σ∧I (pre ++ [a]) (acc ++ ys) h') (cpS p t f (enc a) σ h)) :
  ∃ ys h',zd1 own p t f (l.map enc) σ h = .ok ys σ h'∧I l ys h':=by
 have go : ∀ (post pre : List A) (acc : List α) (h : MH),l=pre ++ post→I pre acc h→∃ ys h',zd1 own p t f (post.map enc) σ h = .ok ys σ h'∧I l (acc ++ ys) h':=by
  intro post
  induction post with
  | nil=>intro pre acc h e i; rw [List.append_nil] at e; subst e; exact ⟨[],h,rfl,by rw [List.append_nil]; exact i⟩
  | cons a post ih =>
   intro pre acc h e i
   obtain ⟨ys,σ1,h1,q,w,i1⟩:=ResQ_ex (hs pre a post acc h e i)
   obtain ⟨zs,h2,q2,i2⟩:=ih (pre ++ [a]) (acc ++ ys) h1 (by rw [e]; simp) i1
   refine ⟨ys ++ zs,h2,?_,by rw [← List.append_assoc]; exact i2⟩
   rw [List.map_cons,zfJ]
   unfold cpS at q
   cases q3 : asgM p (enc a) σ h with
   | ok u σ' h' =>
    rw [q3] at q
    rw [rb_ok] at q ⊢
    rw [bnd_a] at q ⊢
    cases q4 : t σ' h' with
    | ok bb σ4 h4 =>
     rw [q4] at q
     rw [rb_ok] at q ⊢
     rw [bnd_a,q,rb_ok,bnd_a,w,q2]
     rfl
    | exn=>rw [q4] at q; cases q
    | stuck=>rw [q4] at q; cases q
   | exn=>rw [q3] at q; cases q
   | stuck=>rw [q3] at q; cases q
 exact go l [] [] h rfl h0
section
variable {α β A : Type} {enc : A→Val} {l : List A} {own : List Nat} {p : Pat} {t : Fr→MH→Res Bool} {f : Fr→MH→Res (List α)} {σ : Fr} {h : MH} {g : MH→Prop}
theorem pre_mem {l pre post : List A} {a : A} (e : l=pre ++ a :: post) : a∈l:=by rw [e]; simp
theorem cp_pure {pre : List A} {a : A} {acc : List α} {r : A→List α} (e : acc=pre.flatMap r) (z : ResQ (fun ys σ' h'=>Fx.wipe own σ' = σ∧ys=r a∧h' = h) (cpS p t f (enc a) σ h)) :
  ResQ (fun ys σ' h'=>Fx.wipe own σ' = σ∧(acc ++ ys=(pre ++ [a]).flatMap r∧h' = h)) (cpS p t f (enc a) σ h):=by
 obtain ⟨ys,σ',h',q,w,y,hh⟩:=ResQ_ex z
 rw [q]
 refine ⟨w,?_,hh⟩
 rw [List.flatMap_append,List.flatMap_cons,List.flatMap_nil,List.append_nil,e,y]
theorem compP {r : A→List α} (hs : ∀ a∈l,ResQ (fun ys σ' h'=>Fx.wipe own σ' = σ∧ys=r a∧h' = h) (cpS p t f (enc a) σ h)) : zd1 own p t f (l.map enc) σ h = .ok (l.flatMap r) σ h:=by
 obtain ⟨ys,h',e,y,hh⟩:=compL_go (h:=h) (fun pre acc h'=>acc=pre.flatMap r∧h' = h) ⟨rfl,rfl⟩ (fun pre a post acc h' e i=>by
  have z:=cp_pure i.1 (hs a (pre_mem e))
  rw [i.2]; exact z)
 rw [e,y,hh]
theorem compP_rxo {Q : SRes→Prop} {k : List α→Fr→MH→SRes} (r : A→List α) (hs : ∀ a∈l,ResQ (fun ys σ' h'=>Fx.wipe own σ' = σ∧ys=r a∧h' = h) (cpS p t f (enc a) σ h))
  (hk : Q (k (l.flatMap r) σ h)) : Q (rxo (zd1 own p t f (l.map enc) σ h) k):=by rw [compP hs]; exact hk
end
def NxQ0 (J : Fr→MH→Prop) : SRes→Prop
 | .nx σ h=>J σ h
 | .cont σ h=>J σ h
 | _=>False
structure NxQ (J : Fr→MH→Prop) (r : SRes) : Prop where
 w : NxQ0 J r
theorem NxQ_nx {J σ h} : NxQ J (.nx σ h)=J σ h:=propext ⟨fun z=>z.w,fun z=>⟨z⟩⟩
theorem NxQ_cont {J σ h} : NxQ J (.cont σ h)=J σ h:=propext ⟨fun z=>z.w,fun z=>⟨z⟩⟩
theorem NxQ.turn {J : Fr→MH→Prop} {Qk : Fr→MH→Prop} {Q : SRes→Prop} {r : SRes} (z : NxQ J r) : turnQ J Qk Q r:=by
 cases r <;> first | exact ⟨z.w⟩ | exact z.w.elim
theorem for_nx {Q : SRes→Prop} {A : Type} {enc : A→Val} {l : List A} {p : Pat} {b : Fr→MH→SRes} {k : Fr→MH→SRes} {σ : Fr} {h : MH} (I : List A→Fr→MH→Prop)
  (h0 : I [] σ h) (hs : ∀ pre a post σ h,l=pre ++ a :: post→I pre σ h→NxQ (I (pre ++ [a])) (asS p (enc a) b σ h))
  (hk : ∀ σ h,I l σ h→Q (k σ h)) : Q (rs (forL p b (l.map enc) σ h) k):=for_any I h0 (fun pre a post σ h e i=>(hs pre a post σ h e i).turn) hk
end Pl
end
section
namespace Pl
open Fx K
def _root_.Fx.Tbl.pl (T : Tbl) (g : Nat) : Option (Nat × List (Nat × Val)):=(T.defs g).map fun d=>(d.params,d.defaults)
class zq4 (T : Tbl) : Prop where
 df : T.defs zeD=some zaQ
theorem znG {T : Tbl} [i : zq4 T] : T.lent zeD = []:=za0 i.df
theorem zqG {T : Tbl} [i : zq4 T] : T.pl zeD=some (2,[]):=by unfold Fx.Tbl.pl; rw [i.df]; rfl
class zdX (T : Tbl) : Prop where
 df : T.defs zby=some zgA
theorem zr3 {T : Tbl} [i : zdX T] : T.lent zby = [0]:=za0 i.df
theorem pl_l_draw {T : Tbl} [i : zdX T] : T.pl zby=some (2,[]):=by unfold Fx.Tbl.pl; rw [i.df]; rfl
class zdV (T : Tbl) : Prop where
 df : T.defs zbQ=some zeR
theorem zqT {T : Tbl} [i : zdV T] : T.lent zbQ = []:=za0 i.df
theorem pl_l_same {T : Tbl} [i : zdV T] : T.pl zbQ=some (2,[]):=by unfold Fx.Tbl.pl; rw [i.df]; rfl
class zah (T : Tbl) : Prop where
 df : T.defs zaJ=some zov
theorem zhY {T : Tbl} [i : zah T] : T.lent zaJ = []:=za0 i.df
theorem zkk {T : Tbl} [i : zah T] : T.pl zaJ=some (1,[]):=by unfold Fx.Tbl.pl; rw [i.df]; rfl
class zbD (T : Tbl) : Prop where
 df : T.defs zb1=some zrF
theorem zkK {T : Tbl} [i : zbD T] : T.lent zb1 = []:=za0 i.df
theorem znk {T : Tbl} [i : zbD T] : T.pl zb1=some (1,[]):=by unfold Fx.Tbl.pl; rw [i.df]; rfl
class zfP (T : Tbl) : Prop where
 df : T.defs zfl=some Df_is_word
theorem zm3 {T : Tbl} [i : zfP T] : T.lent zfl = []:=za0 i.df
theorem zp8 {T : Tbl} [i : zfP T] : T.pl zfl=some (1,[]):=by unfold Fx.Tbl.pl; rw [i.df]; rfl
class zoq (T : Tbl) : Prop where
 df : T.defs f_idle=some Df_idle
theorem zr6 {T : Tbl} [i : zoq T] : T.lent f_idle = []:=za0 i.df
theorem pl_f_idle {T : Tbl} [i : zoq T] : T.pl f_idle=some (1,[]):=by unfold Fx.Tbl.pl; rw [i.df]; rfl
class zax (T : Tbl) : Prop where
 df : T.defs zaO=some zgC∨T.defs zaO=some zfy
 me : T.meths 1 zeN=some zaO
 c0 : zfP T
 c1 : zbD T
instance {T : Tbl} [i : zax T] : zfP T:=i.c0
instance {T : Tbl} [i : zax T] : zbD T:=i.c1
theorem zeA {T : Tbl} [i : zax T] : T.lent zaO = []:=i.df.elim za0 za0
theorem zf8 {T : Tbl} [i : zax T] : T.pl zaO=some (1,[]):=by unfold Fx.Tbl.pl; rcases i.df with e | e <;> rw [e] <;> rfl
theorem zfd {T : Tbl} [i : zax T] : T.meths 1 zeN=some zaO:=i.me
class zam (T : Tbl) : Prop where
 df : T.defs zcs=some zmn
 ini : T.zgq zqi=some zcs
 c0 : zah T
 c1 : zoq T
 c2 : zax T
instance {T : Tbl} [i : zam T] : zah T:=i.c0
instance {T : Tbl} [i : zam T] : zoq T:=i.c1
instance {T : Tbl} [i : zam T] : zax T:=i.c2
theorem zha {T : Tbl} [i : zam T] : T.lent zcs = []:=za0 i.df
theorem zj5 {T : Tbl} [i : zam T] : T.pl zcs=some (7,[(2,.none),(4,(.tup false [])),(5,(.int 40)),(6,(.int 400))]):=by unfold Fx.Tbl.pl; rw [i.df]; rfl
theorem zii {T : Tbl} [i : zam T] : T.zgq zqi=some zcs:=i.ini
class zbm (T : Tbl) : Prop where
 df : T.defs zcU=some zoA
 me : T.meths 1 zoi=some zcU
theorem zi6 {T : Tbl} [i : zbm T] : T.lent zcU = []:=za0 i.df
theorem zkp {T : Tbl} [i : zbm T] : T.pl zcU=some (1,[]):=by unfold Fx.Tbl.pl; rw [i.df]; rfl
theorem zkz {T : Tbl} [i : zbm T] : T.meths 1 zoi=some zcU:=i.me
class zbu (T : Tbl) : Prop where
 df : T.defs zdo=some Df_disk_of
theorem zm7 {T : Tbl} [i : zbu T] : T.lent zdo = []:=za0 i.df
theorem zpc {T : Tbl} [i : zbu T] : T.pl zdo=some (1,[]):=by unfold Fx.Tbl.pl; rw [i.df]; rfl
class zat (T : Tbl) : Prop where
 df : T.defs zcT=some zoz
 me : T.meths 1 zgx=some zcT
 c0 : zbu T
instance {T : Tbl} [i : zat T] : zbu T:=i.c0
theorem zi5 {T : Tbl} [i : zat T] : T.lent zcT = []:=za0 i.df
theorem zko {T : Tbl} [i : zat T] : T.pl zcT=some (1,[]):=by unfold Fx.Tbl.pl; rw [i.df]; rfl
theorem zky {T : Tbl} [i : zat T] : T.meths 1 zgx=some zcT:=i.me
class zeO (T : Tbl) : Prop where
 df : T.defs zmU=some Dl_pick
 c0 : zdX T
instance {T : Tbl} [i : zeO T] : zdX T:=i.c0
theorem zqX {T : Tbl} [i : zeO T] : T.lent zmU = [0]:=za0 i.df
theorem pl_l_pick {T : Tbl} [i : zeO T] : T.pl zmU=some (2,[]):=by unfold Fx.Tbl.pl; rw [i.df]; rfl
class zdY (T : Tbl) : Prop where
 df : T.defs zcu=some zmp
 ini : T.zgq zqj=some zcu
theorem zhc {T : Tbl} [i : zdY T] : T.lent zcu = []:=za0 i.df
theorem zj7 {T : Tbl} [i : zdY T] : T.pl zcu=some (3,[]):=by unfold Fx.Tbl.pl; rw [i.df]; rfl
theorem zik {T : Tbl} [i : zdY T] : T.zgq zqj=some zcu:=i.ini
class za8 (T : Tbl) : Prop where
 df : T.defs zbf=some zhB
 me : T.meths 0 zbi=some zbf
theorem zf4 {T : Tbl} [i : za8 T] : T.lent zbf = []:=za0 i.df
theorem zfS {T : Tbl} [i : za8 T] : T.pl zbf=some (1,[]):=by unfold Fx.Tbl.pl; rw [i.df]; rfl
theorem zfU {T : Tbl} [i : za8 T] : T.meths 0 zbi=some zbf:=i.me
class zab (T : Tbl) : Prop where
 df : T.defs zaE=some zg2∨T.defs zaE=some zf5
 me : T.meths 0 zbt=some zaE
 c0 : zbD T
instance {T : Tbl} [i : zab T] : zbD T:=i.c0
theorem ze3 {T : Tbl} [i : zab T] : T.lent zaE = []:=i.df.elim za0 za0
theorem zeY {T : Tbl} [i : zab T] : T.pl zaE=some (2,[]):=by unfold Fx.Tbl.pl; rcases i.df with e | e <;> rw [e] <;> rfl
theorem zeZ {T : Tbl} [i : zab T] : T.meths 0 zbt=some zaE:=i.me
class zaT (T : Tbl) : Prop where
 df : T.defs zcb=some zoD∨T.defs zcb=some zly
 me : T.meths 0 zol=some zcb
 c0 : za8 T
 c1 : zab T
instance {T : Tbl} [i : zaT T] : za8 T:=i.c0
instance {T : Tbl} [i : zaT T] : zab T:=i.c1
theorem zi9 {T : Tbl} [i : zaT T] : T.lent zcb = []:=i.df.elim za0 za0
theorem zks {T : Tbl} [i : zaT T] : T.pl zcb=some (3,[]):=by unfold Fx.Tbl.pl; rcases i.df with e | e <;> rw [e] <;> rfl
theorem zkC {T : Tbl} [i : zaT T] : T.meths 0 zol=some zcb:=i.me
class zaz (T : Tbl) : Prop where
 df : T.defs zcV=some zoB
 me : T.meths 0 ziy=some zcV
theorem zi7 {T : Tbl} [i : zaz T] : T.lent zcV = []:=za0 i.df
theorem zkq {T : Tbl} [i : zaz T] : T.pl zcV=some (3,[]):=by unfold Fx.Tbl.pl; rw [i.df]; rfl
theorem zkA {T : Tbl} [i : zaz T] : T.meths 0 ziy=some zcV:=i.me
class zbG (T : Tbl) : Prop where
 df : T.defs zds=some zqf
 me : T.meths 0 M_look=some zds
 c0 : zaT T
 c1 : zaz T
instance {T : Tbl} [i : zbG T] : zaT T:=i.c0
instance {T : Tbl} [i : zbG T] : zaz T:=i.c1
theorem zjj {T : Tbl} [i : zbG T] : T.lent zds = []:=za0 i.df
theorem zlM {T : Tbl} [i : zbG T] : T.pl zds=some (2,[]):=by unfold Fx.Tbl.pl; rw [i.df]; rfl
theorem zlV {T : Tbl} [i : zbG T] : T.meths 0 M_look=some zds:=i.me
class zc6 (T : Tbl) : Prop where
 df : T.defs zeb=some zrK
 me : T.meths 0 M_put=some zeb
 c0 : zaT T
 c1 : zaz T
instance {T : Tbl} [i : zc6 T] : zaT T:=i.c0
instance {T : Tbl} [i : zc6 T] : zaz T:=i.c1
theorem zkP {T : Tbl} [i : zc6 T] : T.lent zeb = []:=za0 i.df
theorem znp {T : Tbl} [i : zc6 T] : T.pl zeb=some (3,[]):=by unfold Fx.Tbl.pl; rw [i.df]; rfl
theorem znC {T : Tbl} [i : zc6 T] : T.meths 0 M_put=some zeb:=i.me
class zb0 (T : Tbl) : Prop where
 df : T.defs zbY=some zlz
 me : T.meths 0 zln=some zbY
 c0 : za8 T
 c1 : zaz T
instance {T : Tbl} [i : zb0 T] : za8 T:=i.c0
instance {T : Tbl} [i : zb0 T] : zaz T:=i.c1
theorem zgm {T : Tbl} [i : zb0 T] : T.lent zbY = []:=za0 i.df
theorem zhO {T : Tbl} [i : zb0 T] : T.pl zbY=some (1,[]):=by unfold Fx.Tbl.pl; rw [i.df]; rfl
theorem zhU {T : Tbl} [i : zb0 T] : T.meths 0 zln=some zbY:=i.me
class zbn (T : Tbl) : Prop where
 df : T.defs zcW=some zoC
 me : T.meths 0 zru=some zcW
 c0 : za8 T
 c1 : zaz T
instance {T : Tbl} [i : zbn T] : za8 T:=i.c0
instance {T : Tbl} [i : zbn T] : zaz T:=i.c1
theorem zi8 {T : Tbl} [i : zbn T] : T.lent zcW = []:=za0 i.df
theorem zkr {T : Tbl} [i : zbn T] : T.pl zcW=some (1,[]):=by unfold Fx.Tbl.pl; rw [i.df]; rfl
theorem zkB {T : Tbl} [i : zbn T] : T.meths 0 zru=some zcW:=i.me
class zc5 (T : Tbl) : Prop where
 df : T.defs zea=some zrJ
 me : T.meths 0 M_say=some zea
 c0 : za8 T
 c1 : zab T
instance {T : Tbl} [i : zc5 T] : za8 T:=i.c0
instance {T : Tbl} [i : zc5 T] : zab T:=i.c1
theorem zkO {T : Tbl} [i : zc5 T] : T.lent zea = []:=za0 i.df
theorem zno {T : Tbl} [i : zc5 T] : T.pl zea=some (2,[]):=by unfold Fx.Tbl.pl; rw [i.df]; rfl
theorem znB {T : Tbl} [i : zc5 T] : T.meths 0 M_say=some zea:=i.me
class zbH (T : Tbl) : Prop where
 df : T.defs zdt=some zqg
 me : T.meths 0 M_fail=some zdt
 c0 : za8 T
 c1 : zab T
instance {T : Tbl} [i : zbH T] : za8 T:=i.c0
instance {T : Tbl} [i : zbH T] : zab T:=i.c1
theorem zjk {T : Tbl} [i : zbH T] : T.lent zdt = []:=za0 i.df
theorem zlN {T : Tbl} [i : zbH T] : T.pl zdt=some (2,[]):=by unfold Fx.Tbl.pl; rw [i.df]; rfl
theorem zlW {T : Tbl} [i : zbH T] : T.meths 0 M_fail=some zdt:=i.me
class zcM (T : Tbl) : Prop where
 df : T.defs zbL=some zmg∨T.defs zbL=some zjs∨T.defs zbL=some zjr
theorem zh3 {T : Tbl} [i : zcM T] : T.lent zbL = []:=i.df.elim za0 fun e=>e.elim za0 za0
theorem ziY {T : Tbl} [i : zcM T] : T.pl zbL=some (3,[]):=by unfold Fx.Tbl.pl; rcases i.df with e | e | e <;> rw [e] <;> rfl
class zaS (T : Tbl) : Prop where
 df : T.defs zcS=some zoy
 ini : T.zgq C_Run=some zcS
 c0 : zcM T
 c1 : zbm T
instance {T : Tbl} [i : zaS T] : zcM T:=i.c0
instance {T : Tbl} [i : zaS T] : zbm T:=i.c1
theorem zi4 {T : Tbl} [i : zaS T] : T.lent zcS = []:=za0 i.df
theorem zkn {T : Tbl} [i : zaS T] : T.pl zcS=some (6,[]):=by unfold Fx.Tbl.pl; rw [i.df]; rfl
theorem zjo {T : Tbl} [i : zaS T] : T.zgq C_Run=some zcS:=i.ini
class zb4 (T : Tbl) : Prop where
 df : T.defs zdF=some Df_Run_of
 c0 : zat T
 c1 : zaS T
instance {T : Tbl} [i : zb4 T] : zat T:=i.c0
instance {T : Tbl} [i : zb4 T] : zaS T:=i.c1
theorem znL {T : Tbl} [i : zb4 T] : T.lent zdF = []:=za0 i.df
theorem zqL {T : Tbl} [i : zb4 T] : T.pl zdF=some (1,[]):=by unfold Fx.Tbl.pl; rw [i.df]; rfl
class zb9 (T : Tbl) : Prop where
 df : T.defs zcn=some zmi
 c0 : zaS T
instance {T : Tbl} [i : zb9 T] : zaS T:=i.c0
theorem zh5 {T : Tbl} [i : zb9 T] : T.lent zcn = []:=za0 i.df
theorem zj0 {T : Tbl} [i : zb9 T] : T.pl zcn=some (2,[]):=by unfold Fx.Tbl.pl; rw [i.df]; rfl
class zaM (T : Tbl) : Prop where
 df : T.defs zdp=some zqc
 me : T.meths 2 zix=some zdp
theorem zjg {T : Tbl} [i : zaM T] : T.lent zdp = []:=za0 i.df
theorem zlJ {T : Tbl} [i : zaM T] : T.pl zdp=some (1,[]):=by unfold Fx.Tbl.pl; rw [i.df]; rfl
theorem zlS {T : Tbl} [i : zaM T] : T.meths 2 zix=some zdp:=i.me
class zek (T : Tbl) : Prop where
 df : T.defs zfm=some Df_Run_end
 me : T.meths 2 M_end=some zfm
theorem zm8 {T : Tbl} [i : zek T] : T.lent zfm = []:=za0 i.df
theorem zpd {T : Tbl} [i : zek T] : T.pl zfm=some (1,[]):=by unfold Fx.Tbl.pl; rw [i.df]; rfl
theorem zpk {T : Tbl} [i : zek T] : T.meths 2 M_end=some zfm:=i.me
class zc4 (T : Tbl) : Prop where
 df : T.defs ze9=some zrI
 me : T.meths 2 M_said=some ze9
theorem zkN {T : Tbl} [i : zc4 T] : T.lent ze9 = []:=za0 i.df
theorem znn {T : Tbl} [i : zc4 T] : T.pl ze9=some (1,[]):=by unfold Fx.Tbl.pl; rw [i.df]; rfl
theorem znA {T : Tbl} [i : zc4 T] : T.meths 2 M_said=some ze9:=i.me
class zfs (T : Tbl) : Prop where
 df : T.defs zhg=some Dl_told
theorem zqS {T : Tbl} [i : zfs T] : T.lent zhg = [1]:=za0 i.df
theorem pl_l_told {T : Tbl} [i : zfs T] : T.pl zhg=some (2,[]):=by unfold Fx.Tbl.pl; rw [i.df]; rfl
class zgy (T : Tbl) : Prop where
 df : T.defs zpv=some Dl_wish
 c0 : zfs T
instance {T : Tbl} [i : zgy T] : zfs T:=i.c0
theorem zqQ {T : Tbl} [i : zgy T] : T.lent zpv = [1]:=za0 i.df
theorem pl_l_wish {T : Tbl} [i : zgy T] : T.pl zpv=some (2,[]):=by unfold Fx.Tbl.pl; rw [i.df]; rfl
class ziV (T : Tbl) : Prop where
 df : T.defs l_ask=some Dl_ask
 c0 : zbG T
 c1 : zc6 T
 c2 : zb0 T
 c3 : zbn T
instance {T : Tbl} [i : ziV T] : zbG T:=i.c0
instance {T : Tbl} [i : ziV T] : zc6 T:=i.c1
instance {T : Tbl} [i : ziV T] : zb0 T:=i.c2
instance {T : Tbl} [i : ziV T] : zbn T:=i.c3
theorem lent_l_ask {T : Tbl} [i : ziV T] : T.lent l_ask = []:=za0 i.df
theorem pl_l_ask {T : Tbl} [i : ziV T] : T.pl l_ask=some (2,[]):=by unfold Fx.Tbl.pl; rw [i.df]; rfl
class zdW (T : Tbl) : Prop where
 df : T.defs l_play=some Dl_play
 c0 : zfs T
 c1 : zdV T
 c2 : ziV T
 c3 : zgy T
 c4 : zc5 T
 c5 : zbH T
instance {T : Tbl} [i : zdW T] : zfs T:=i.c0
instance {T : Tbl} [i : zdW T] : zdV T:=i.c1
instance {T : Tbl} [i : zdW T] : ziV T:=i.c2
instance {T : Tbl} [i : zdW T] : zgy T:=i.c3
instance {T : Tbl} [i : zdW T] : zc5 T:=i.c4
instance {T : Tbl} [i : zdW T] : zbH T:=i.c5
theorem zqV {T : Tbl} [i : zdW T] : T.lent l_play = []:=za0 i.df
theorem pl_l_play {T : Tbl} [i : zdW T] : T.pl l_play=some (2,[]):=by unfold Fx.Tbl.pl; rw [i.df]; rfl
class zdy (T : Tbl) : Prop where
 df : T.defs zeC=some Dl_worked
 lm0 : T.lams 0=some lam0
 c0 : zdW T
instance {T : Tbl} [i : zdy T] : zdW T:=i.c0
theorem znE {T : Tbl} [i : zdy T] : T.lent zeC = []:=za0 i.df
theorem zqE {T : Tbl} [i : zdy T] : T.pl zeC=some (1,[]):=by unfold Fx.Tbl.pl; rw [i.df]; rfl
class zeg (T : Tbl) : Prop where
 df : T.defs zma=some Dl_run
 c0 : zfs T
 c1 : zdV T
 c2 : zgy T
instance {T : Tbl} [i : zeg T] : zfs T:=i.c0
instance {T : Tbl} [i : zeg T] : zdV T:=i.c1
instance {T : Tbl} [i : zeg T] : zgy T:=i.c2
theorem lent_l_run {T : Tbl} [i : zeg T] : T.lent zma = []:=za0 i.df
theorem pl_l_run {T : Tbl} [i : zeg T] : T.pl zma=some (2,[]):=by unfold Fx.Tbl.pl; rw [i.df]; rfl
class zom (T : Tbl) : Prop where
 df : T.defs l_plan=some Dl_plan
 c0 : zdy T
 c1 : zam T
instance {T : Tbl} [i : zom T] : zdy T:=i.c0
instance {T : Tbl} [i : zom T] : zam T:=i.c1
theorem zqW {T : Tbl} [i : zom T] : T.lent l_plan = []:=za0 i.df
theorem pl_l_plan {T : Tbl} [i : zom T] : T.pl l_plan=some (1,[]):=by unfold Fx.Tbl.pl; rw [i.df]; rfl
class zda (T : Tbl) : Prop where
 df : T.defs zib=some Dl_value
 c0 : zeO T
instance {T : Tbl} [i : zda T] : zeO T:=i.c0
theorem zpm {T : Tbl} [i : zda T] : T.lent zib = [0]:=za0 i.df
theorem pl_l_value {T : Tbl} [i : zda T] : T.pl zib=some (1,[]):=by unfold Fx.Tbl.pl; rw [i.df]; rfl
class ziz (T : Tbl) : Prop where
 df : T.defs zkR=some Dl_part
 c0 : zdX T
 c1 : zda T
instance {T : Tbl} [i : ziz T] : zdX T:=i.c0
instance {T : Tbl} [i : ziz T] : zda T:=i.c1
theorem zqY {T : Tbl} [i : ziz T] : T.lent zkR = [0]:=za0 i.df
theorem pl_l_part {T : Tbl} [i : ziz T] : T.pl zkR=some (1,[]):=by unfold Fx.Tbl.pl; rw [i.df]; rfl
class zft (T : Tbl) : Prop where
 df : T.defs zpw=some Dl_rows
 c0 : zdX T
 c1 : zda T
 c2 : ziz T
 c3 : zeO T
instance {T : Tbl} [i : zft T] : zdX T:=i.c0
instance {T : Tbl} [i : zft T] : zda T:=i.c1
instance {T : Tbl} [i : zft T] : ziz T:=i.c2
instance {T : Tbl} [i : zft T] : zeO T:=i.c3
theorem zqU {T : Tbl} [i : zft T] : T.lent zpw = [0]:=za0 i.df
theorem pl_l_rows {T : Tbl} [i : zft T] : T.pl zpw=some (3,[]):=by unfold Fx.Tbl.pl; rw [i.df]; rfl
def zfx : Def:={ params:=2,slots:=2,za1:=[],cells:=[],defaults:=[],fresh:=false,esc:=false,lent:=[],freshT:=[],body:=(.cons (.ite (.or (.not (.call zaJ (.e (.var 1) .nil))) (.not (.chain .le .le (.lit (.int 0)) (.var 1) (.prim .len (.e (.fld (.var 0) zga) .nil))))) (.cons (.raise zcH (.cons (.var 1) .nil)) .nil) .nil) .nil) }
class za6 (T : Tbl) : Prop where
 df : T.defs zaN=some zgB∨T.defs zaN=some zfx
 me : T.meths 2 zb7=some zaN
 c0 : zah T
instance {T : Tbl} [i : za6 T] : zah T:=i.c0
theorem zez {T : Tbl} [i : za6 T] : T.lent zaN = []:=i.df.elim za0 za0
theorem zf7 {T : Tbl} [i : za6 T] : T.pl zaN=some (2,[]):=by unfold Fx.Tbl.pl; rcases i.df with e | e <;> rw [e] <;> rfl
theorem zfc {T : Tbl} [i : za6 T] : T.meths 2 zb7=some zaN:=i.me
class zag (T : Tbl) : Prop where
 df : T.defs zcp=some zmk
 me : T.meths 2 zdx=some zcp
theorem zh7 {T : Tbl} [i : zag T] : T.lent zcp = []:=za0 i.df
theorem zj2 {T : Tbl} [i : zag T] : T.pl zcp=some (2,[]):=by unfold Fx.Tbl.pl; rw [i.df]; rfl
theorem zja {T : Tbl} [i : zag T] : T.meths 2 zdx=some zcp:=i.me
class zae (T : Tbl) : Prop where
 df : T.defs zbX=some zlx
 me : T.meths 2 zee=some zbX
 c0 : zbu T
 c1 : za6 T
 c2 : zag T
instance {T : Tbl} [i : zae T] : zbu T:=i.c0
instance {T : Tbl} [i : zae T] : za6 T:=i.c1
instance {T : Tbl} [i : zae T] : zag T:=i.c2
theorem zgl {T : Tbl} [i : zae T] : T.lent zbX = []:=za0 i.df
theorem zhN {T : Tbl} [i : zae T] : T.pl zbX=some (2,[]):=by unfold Fx.Tbl.pl; rw [i.df]; rfl
theorem zhT {T : Tbl} [i : zae T] : T.meths 2 zee=some zbX:=i.me
class zeP (T : Tbl) : Prop where
 df : T.defs zfH=some zrD
theorem zkI {T : Tbl} [i : zeP T] : T.lent zfH = []:=za0 i.df
theorem zni {T : Tbl} [i : zeP T] : T.pl zfH=some (1,[]):=by unfold Fx.Tbl.pl; rw [i.df]; rfl
class zaW (T : Tbl) : Prop where
 df : T.defs zbq=some ziF
 me : T.meths 2 ziT=some zbq
 c0 : zbu T
 c1 : za6 T
 c2 : zag T
instance {T : Tbl} [i : zaW T] : zbu T:=i.c0
instance {T : Tbl} [i : zaW T] : za6 T:=i.c1
instance {T : Tbl} [i : zaW T] : zag T:=i.c2
theorem zfg {T : Tbl} [i : zaW T] : T.lent zbq = []:=za0 i.df
theorem zge {T : Tbl} [i : zaW T] : T.pl zbq=some (2,[]):=by unfold Fx.Tbl.pl; rw [i.df]; rfl
theorem zgg {T : Tbl} [i : zaW T] : T.meths 2 ziT=some zbq:=i.me
class zaV (T : Tbl) : Prop where
 df : T.defs zcm=some zmh
 me : T.meths 2 zhs=some zcm
 c0 : za6 T
instance {T : Tbl} [i : zaV T] : za6 T:=i.c0
theorem zh4 {T : Tbl} [i : zaV T] : T.lent zcm = []:=za0 i.df
theorem ziZ {T : Tbl} [i : zaV T] : T.pl zcm=some (2,[]):=by unfold Fx.Tbl.pl; rw [i.df]; rfl
theorem zj8 {T : Tbl} [i : zaV T] : T.meths 2 zhs=some zcm:=i.me
class zbs (T : Tbl) : Prop where
 df : T.defs zbz=some zjt
 me : T.meths 2 zlm=some zbz
 c0 : za6 T
 c1 : zag T
instance {T : Tbl} [i : zbs T] : za6 T:=i.c0
instance {T : Tbl} [i : zbs T] : zag T:=i.c1
theorem zfX {T : Tbl} [i : zbs T] : T.lent zbz = []:=za0 i.df
theorem zgU {T : Tbl} [i : zbs T] : T.pl zbz=some (2,[]):=by unfold Fx.Tbl.pl; rw [i.df]; rfl
theorem zgZ {T : Tbl} [i : zbs T] : T.meths 2 zlm=some zbz:=i.me
class zbh (T : Tbl) : Prop where
 df : T.defs zbp=some ziE
 me : T.meths 2 zfp=some zbp
theorem zff {T : Tbl} [i : zbh T] : T.lent zbp = []:=za0 i.df
theorem zgd {T : Tbl} [i : zbh T] : T.pl zbp=some (5,[]):=by unfold Fx.Tbl.pl; rw [i.df]; rfl
theorem zgf {T : Tbl} [i : zbh T] : T.meths 2 zfp=some zbp:=i.me
class zbl (T : Tbl) : Prop where
 df : T.defs zcR=some zox
 me : T.meths 2 zjJ=some zcR
theorem zi0 {T : Tbl} [i : zbl T] : T.lent zcR = []:=za0 i.df
theorem zkm {T : Tbl} [i : zbl T] : T.pl zcR=some (4,[]):=by unfold Fx.Tbl.pl; rw [i.df]; rfl
theorem zkx {T : Tbl} [i : zbl T] : T.meths 2 zjJ=some zcR:=i.me
class zak (T : Tbl) : Prop where
 df : T.defs zcq=some zml
 me : T.meths 2 zht=some zcq
 c0 : zeP T
 c1 : za6 T
 c2 : zag T
 c3 : zbh T
 c4 : zbl T
instance {T : Tbl} [i : zak T] : zeP T:=i.c0
instance {T : Tbl} [i : zak T] : za6 T:=i.c1
instance {T : Tbl} [i : zak T] : zag T:=i.c2
instance {T : Tbl} [i : zak T] : zbh T:=i.c3
instance {T : Tbl} [i : zak T] : zbl T:=i.c4
theorem zh8 {T : Tbl} [i : zak T] : T.lent zcq = []:=za0 i.df
theorem zj3 {T : Tbl} [i : zak T] : T.pl zcq=some (2,[]):=by unfold Fx.Tbl.pl; rw [i.df]; rfl
theorem zjb {T : Tbl} [i : zak T] : T.meths 2 zht=some zcq:=i.me
class zon (T : Tbl) : Prop where
 df : T.defs l_late=some Dl_late
theorem zr0 {T : Tbl} [i : zon T] : T.lent l_late = []:=za0 i.df
theorem pl_l_late {T : Tbl} [i : zon T] : T.pl l_late=some (4,[]):=by unfold Fx.Tbl.pl; rw [i.df]; rfl
class zdJ (T : Tbl) : Prop where
 df : T.defs zgp=some Dl_words
theorem zpl {T : Tbl} [i : zdJ T] : T.lent zgp = []:=za0 i.df
theorem pl_l_words {T : Tbl} [i : zdJ T] : T.pl zgp=some (2,[]):=by unfold Fx.Tbl.pl; rw [i.df]; rfl
class zfN (T : Tbl) : Prop where
 df : T.defs zic=some Dl_pages
theorem zpn {T : Tbl} [i : zfN T] : T.lent zic = []:=za0 i.df
theorem pl_l_pages {T : Tbl} [i : zfN T] : T.pl zic=some (3,[]):=by unfold Fx.Tbl.pl; rw [i.df]; rfl
class zef (T : Tbl) : Prop where
 df : T.defs zhf=some Dl_worths
theorem znD {T : Tbl} [i : zef T] : T.lent zhf = []:=za0 i.df
theorem zqD {T : Tbl} [i : zef T] : T.pl zhf=some (2,[]):=by unfold Fx.Tbl.pl; rw [i.df]; rfl
class zoo (T : Tbl) : Prop where
 df : T.defs l_fits=some Dl_fits
theorem zr2 {T : Tbl} [i : zoo T] : T.lent l_fits = []:=za0 i.df
theorem pl_l_fits {T : Tbl} [i : zoo T] : T.pl l_fits=some (3,[]):=by unfold Fx.Tbl.pl; rw [i.df]; rfl
class zdz (T : Tbl) : Prop where
 df : T.defs zfG=some zrz
 c0 : zef T
instance {T : Tbl} [i : zdz T] : zef T:=i.c0
theorem zkE {T : Tbl} [i : zdz T] : T.lent zfG = []:=za0 i.df
theorem zne {T : Tbl} [i : zdz T] : T.pl zfG=some (3,[]):=by unfold Fx.Tbl.pl; rw [i.df]; rfl
class ziA (T : Tbl) : Prop where
 df : T.defs l_kept=some Dl_kept
 c0 : zdz T
 c1 : zoo T
instance {T : Tbl} [i : ziA T] : zdz T:=i.c0
instance {T : Tbl} [i : ziA T] : zoo T:=i.c1
theorem zr1 {T : Tbl} [i : ziA T] : T.lent l_kept = []:=za0 i.df
theorem pl_l_kept {T : Tbl} [i : ziA T] : T.pl l_kept=some (3,[]):=by unfold Fx.Tbl.pl; rw [i.df]; rfl
class zaD (T : Tbl) : Prop where
 df : T.defs zaG=some Df_key_of
theorem znJ {T : Tbl} [i : zaD T] : T.lent zaG = []:=za0 i.df
theorem zqJ {T : Tbl} [i : zaD T] : T.pl zaG=some (1,[]):=by unfold Fx.Tbl.pl; rw [i.df]; rfl
class zbE (T : Tbl) : Prop where
 df : T.defs zcL=some zlv
 c0 : zah T
instance {T : Tbl} [i : zbE T] : zah T:=i.c0
theorem zgj {T : Tbl} [i : zbE T] : T.lent zcL = []:=za0 i.df
theorem zhL {T : Tbl} [i : zbE T] : T.pl zcL=some (2,[]):=by unfold Fx.Tbl.pl; rw [i.df]; rfl
class zad (T : Tbl) : Prop where
 df : T.defs zbe=some zhA
 me : T.meths 2 zd9=some zbe
 c0 : zbu T
 c1 : zag T
 c2 : zbl T
instance {T : Tbl} [i : zad T] : zbu T:=i.c0
instance {T : Tbl} [i : zad T] : zag T:=i.c1
instance {T : Tbl} [i : zad T] : zbl T:=i.c2
theorem zf0 {T : Tbl} [i : zad T] : T.lent zbe = []:=za0 i.df
theorem zfR {T : Tbl} [i : zad T] : T.pl zbe=some (3,[]):=by unfold Fx.Tbl.pl; rw [i.df]; rfl
theorem zfT {T : Tbl} [i : zad T] : T.meths 2 zd9=some zbe:=i.me
class zaH (T : Tbl) : Prop where
 df : T.defs zco=some zmj
 me : T.meths 2 zll=some zco
 c0 : zah T
 c1 : zbE T
 c2 : zak T
 c3 : zad T
instance {T : Tbl} [i : zaH T] : zah T:=i.c0
instance {T : Tbl} [i : zaH T] : zbE T:=i.c1
instance {T : Tbl} [i : zaH T] : zak T:=i.c2
instance {T : Tbl} [i : zaH T] : zad T:=i.c3
theorem zh6 {T : Tbl} [i : zaH T] : T.lent zco = []:=za0 i.df
theorem zj1 {T : Tbl} [i : zaH T] : T.pl zco=some (2,[]):=by unfold Fx.Tbl.pl; rw [i.df]; rfl
theorem zj9 {T : Tbl} [i : zaH T] : T.meths 2 zll=some zco:=i.me
class zb6 (T : Tbl) : Prop where
 df : T.defs zdr=some zqe
 me : T.meths 2 zok=some zdr
 c0 : zad T
 c1 : zak T
instance {T : Tbl} [i : zb6 T] : zad T:=i.c0
instance {T : Tbl} [i : zb6 T] : zak T:=i.c1
theorem zji {T : Tbl} [i : zb6 T] : T.lent zdr = []:=za0 i.df
theorem zlL {T : Tbl} [i : zb6 T] : T.pl zdr=some (1,[]):=by unfold Fx.Tbl.pl; rw [i.df]; rfl
theorem zlU {T : Tbl} [i : zb6 T] : T.meths 2 zok=some zdr:=i.me
class zb5 (T : Tbl) : Prop where
 df : T.defs zdq=some zqd
 me : T.meths 2 zoj=some zdq
 c0 : zaD T
 c1 : zb6 T
instance {T : Tbl} [i : zb5 T] : zaD T:=i.c0
instance {T : Tbl} [i : zb5 T] : zb6 T:=i.c1
theorem zjh {T : Tbl} [i : zb5 T] : T.lent zdq = []:=za0 i.df
theorem zlK {T : Tbl} [i : zb5 T] : T.pl zdq=some (1,[]):=by unfold Fx.Tbl.pl; rw [i.df]; rfl
theorem zlT {T : Tbl} [i : zb5 T] : T.meths 2 zoj=some zdq:=i.me
class zop (T : Tbl) : Prop where
 df : T.defs zra=some Dl_among
 c0 : zdV T
instance {T : Tbl} [i : zop T] : zdV T:=i.c0
theorem zpq {T : Tbl} [i : zop T] : T.lent zra = []:=za0 i.df
theorem pl_l_among {T : Tbl} [i : zop T] : T.pl zra=some (2,[]):=by unfold Fx.Tbl.pl; rw [i.df]; rfl
class zlp (T : Tbl) : Prop where
 df : T.defs l_left=some Dl_left
 c0 : zef T
instance {T : Tbl} [i : zlp T] : zef T:=i.c0
theorem zqZ {T : Tbl} [i : zlp T] : T.lent l_left = []:=za0 i.df
theorem pl_l_left {T : Tbl} [i : zlp T] : T.pl l_left=some (3,[]):=by unfold Fx.Tbl.pl; rw [i.df]; rfl
class zdb (T : Tbl) : Prop where
 df : T.defs zif=some Dl_falls
 c0 : zon T
 c1 : ziA T
 c2 : zlp T
instance {T : Tbl} [i : zdb T] : zon T:=i.c0
instance {T : Tbl} [i : zdb T] : ziA T:=i.c1
instance {T : Tbl} [i : zdb T] : zlp T:=i.c2
theorem zpo {T : Tbl} [i : zdb T] : T.lent zif = []:=za0 i.df
theorem pl_l_falls {T : Tbl} [i : zdb T] : T.pl zif=some (4,[]):=by unfold Fx.Tbl.pl; rw [i.df]; rfl
class zc1 (T : Tbl) : Prop where
 df : T.defs zct=some zmo
 ini : T.zgq C_Left=some zct
theorem zhb {T : Tbl} [i : zc1 T] : T.lent zct = []:=za0 i.df
theorem zj6 {T : Tbl} [i : zc1 T] : T.pl zct=some (4,[]):=by unfold Fx.Tbl.pl; rw [i.df]; rfl
theorem zij {T : Tbl} [i : zc1 T] : T.zgq C_Left=some zct:=i.ini
class zbI (T : Tbl) : Prop where
 df : T.defs zcC=some zqh∨T.defs zcC=some zmq
 me : T.meths 4 M_add=some zcC
 c0 : zaD T
 c1 : zc1 T
instance {T : Tbl} [i : zbI T] : zaD T:=i.c0
instance {T : Tbl} [i : zbI T] : zc1 T:=i.c1
theorem zjl {T : Tbl} [i : zbI T] : T.lent zcC = []:=i.df.elim za0 za0
theorem zlO {T : Tbl} [i : zbI T] : T.pl zcC=some (4,[]):=by unfold Fx.Tbl.pl; rcases i.df with e | e <;> rw [e] <;> rfl
theorem zlX {T : Tbl} [i : zbI T] : T.meths 4 M_add=some zcC:=i.me
class zaf (T : Tbl) : Prop where
 df : T.defs zbA=some zju
 me : T.meths 4 zfq=some zbA
 c0 : zaD T
 c1 : zb9 T
instance {T : Tbl} [i : zaf T] : zaD T:=i.c0
instance {T : Tbl} [i : zaf T] : zb9 T:=i.c1
theorem zfY {T : Tbl} [i : zaf T] : T.lent zbA = []:=za0 i.df
theorem zgV {T : Tbl} [i : zaf T] : T.pl zbA=some (2,[]):=by unfold Fx.Tbl.pl; rw [i.df]; rfl
theorem zh0 {T : Tbl} [i : zaf T] : T.meths 4 zfq=some zbA:=i.me
class zac (T : Tbl) : Prop where
 df : T.defs zb2=some zgD
 me : T.meths 4 zdI=some zb2
 c0 : zaD T
 c1 : zaf T
 c2 : zb5 T
instance {T : Tbl} [i : zac T] : zaD T:=i.c0
instance {T : Tbl} [i : zac T] : zaf T:=i.c1
instance {T : Tbl} [i : zac T] : zb5 T:=i.c2
theorem zeB {T : Tbl} [i : zac T] : T.lent zb2 = []:=za0 i.df
theorem zf9 {T : Tbl} [i : zac T] : T.pl zb2=some (2,[]):=by unfold Fx.Tbl.pl; rw [i.df]; rfl
theorem zfe {T : Tbl} [i : zac T] : T.meths 4 zdI=some zb2:=i.me
class zar (T : Tbl) : Prop where
 df : T.defs zc0=some zlB
 ini : T.zgq zrL=some zc0
 c0 : zb4 T
 c1 : zb6 T
 c2 : zbI T
 c3 : zaV T
 c4 : zac T
instance {T : Tbl} [i : zar T] : zb4 T:=i.c0
instance {T : Tbl} [i : zar T] : zb6 T:=i.c1
instance {T : Tbl} [i : zar T] : zbI T:=i.c2
instance {T : Tbl} [i : zar T] : zaV T:=i.c3
instance {T : Tbl} [i : zar T] : zac T:=i.c4
theorem zgo {T : Tbl} [i : zar T] : T.lent zc0 = []:=za0 i.df
theorem zhQ {T : Tbl} [i : zar T] : T.pl zc0=some (2,[]):=by unfold Fx.Tbl.pl; rw [i.df]; rfl
theorem zhj {T : Tbl} [i : zar T] : T.zgq zrL=some zc0:=i.ini
class zaw (T : Tbl) : Prop where
 df : T.defs zbM=some zrG
 c0 : zar T
instance {T : Tbl} [i : zaw T] : zar T:=i.c0
theorem zkL {T : Tbl} [i : zaw T] : T.lent zbM = []:=za0 i.df
theorem znl {T : Tbl} [i : zaw T] : T.pl zbM=some (1,[]):=by unfold Fx.Tbl.pl; rw [i.df]; rfl
class zaR (T : Tbl) : Prop where
 df : T.defs zca=some zou
 c0 : zek T
 c1 : zae T
 c2 : zaM T
instance {T : Tbl} [i : zaR T] : zek T:=i.c0
instance {T : Tbl} [i : zaR T] : zae T:=i.c1
instance {T : Tbl} [i : zaR T] : zaM T:=i.c2
theorem zhX {T : Tbl} [i : zaR T] : T.lent zca = []:=za0 i.df
theorem zkj {T : Tbl} [i : zaR T] : T.pl zca=some (2,[]):=by unfold Fx.Tbl.pl; rw [i.df]; rfl
class zav (T : Tbl) : Prop where
 df : T.defs zc9=some zrE
 c0 : zaw T
 c1 : zaR T
 c2 : zaD T
 c3 : zc4 T
 c4 : zaf T
instance {T : Tbl} [i : zav T] : zaw T:=i.c0
instance {T : Tbl} [i : zav T] : zaR T:=i.c1
instance {T : Tbl} [i : zav T] : zaD T:=i.c2
instance {T : Tbl} [i : zav T] : zc4 T:=i.c3
instance {T : Tbl} [i : zav T] : zaf T:=i.c4
theorem zkJ {T : Tbl} [i : zav T] : T.lent zc9 = []:=za0 i.df
theorem znj {T : Tbl} [i : zav T] : T.pl zc9=some (1,[]):=by unfold Fx.Tbl.pl; rw [i.df]; rfl
class zeQ (T : Tbl) : Prop where
 df : T.defs zo4=some Df_disks
 c0 : zaw T
 c1 : zaD T
 c2 : zat T
instance {T : Tbl} [i : zeQ T] : zaw T:=i.c0
instance {T : Tbl} [i : zeQ T] : zaD T:=i.c1
instance {T : Tbl} [i : zeQ T] : zat T:=i.c2
theorem zpt {T : Tbl} [i : zeQ T] : T.lent zo4 = []:=za0 i.df
theorem pl_f_disks {T : Tbl} [i : zeQ T] : T.pl zo4=some (1,[]):=by unfold Fx.Tbl.pl; rw [i.df]; rfl
class zcE (T : Tbl) : Prop where
 df : T.defs ze7=some Df_is_same
 c0 : zaD T
instance {T : Tbl} [i : zcE T] : zaD T:=i.c0
theorem zm4 {T : Tbl} [i : zcE T] : T.lent ze7 = []:=za0 i.df
theorem zp9 {T : Tbl} [i : zcE T] : T.pl ze7=some (2,[]):=by unfold Fx.Tbl.pl; rw [i.df]; rfl
class zal (T : Tbl) : Prop where
 df : T.defs zcr=some zmm
 me : T.meths 1 zfM=some zcr
 c0 : zam T
instance {T : Tbl} [i : zal T] : zam T:=i.c0
theorem zh9 {T : Tbl} [i : zal T] : T.lent zcr = []:=za0 i.df
theorem zj4 {T : Tbl} [i : zal T] : T.pl zcr=some (3,[]):=by unfold Fx.Tbl.pl; rw [i.df]; rfl
theorem zjc {T : Tbl} [i : zal T] : T.meths 1 zfM=some zcr:=i.me
class zaA (T : Tbl) : Prop where
 df : T.defs zbZ=some zlA
 me : T.meths 4 zeM=some zbZ
 c0 : zaf T
 c1 : zae T
instance {T : Tbl} [i : zaA T] : zaf T:=i.c0
instance {T : Tbl} [i : zaA T] : zae T:=i.c1
theorem zgn {T : Tbl} [i : zaA T] : T.lent zbZ = []:=za0 i.df
theorem zhP {T : Tbl} [i : zaA T] : T.pl zbZ=some (2,[]):=by unfold Fx.Tbl.pl; rw [i.df]; rfl
theorem zhV {T : Tbl} [i : zaA T] : T.meths 4 zeM=some zbZ:=i.me
class zaP (T : Tbl) : Prop where
 df : T.defs ze8=some zrH
 c0 : zb4 T
 c1 : zb9 T
 c2 : zat T
 c3 : zc4 T
 c4 : zaH T
 c5 : zaV T
instance {T : Tbl} [i : zaP T] : zb4 T:=i.c0
instance {T : Tbl} [i : zaP T] : zb9 T:=i.c1
instance {T : Tbl} [i : zaP T] : zat T:=i.c2
instance {T : Tbl} [i : zaP T] : zc4 T:=i.c3
instance {T : Tbl} [i : zaP T] : zaH T:=i.c4
instance {T : Tbl} [i : zaP T] : zaV T:=i.c5
theorem zkM {T : Tbl} [i : zaP T] : T.lent ze8 = []:=za0 i.df
theorem znm {T : Tbl} [i : zaP T] : T.pl ze8=some (2,[]):=by unfold Fx.Tbl.pl; rw [i.df]; rfl
class zfO (T : Tbl) : Prop where
 df : T.defs zl9=some Df_outcome
 c0 : zaP T
 c1 : zaR T
instance {T : Tbl} [i : zfO T] : zaP T:=i.c0
instance {T : Tbl} [i : zfO T] : zaR T:=i.c1
theorem zm2 {T : Tbl} [i : zfO T] : T.lent zl9 = []:=za0 i.df
theorem zp7 {T : Tbl} [i : zfO T] : T.pl zl9=some (2,[]):=by unfold Fx.Tbl.pl; rw [i.df]; rfl
class zdh (T : Tbl) : Prop where
 df : T.defs zhm=some Df_is_disk
 c0 : zbD T
 c1 : zbm T
instance {T : Tbl} [i : zdh T] : zbD T:=i.c0
instance {T : Tbl} [i : zdh T] : zbm T:=i.c1
theorem zm5 {T : Tbl} [i : zdh T] : T.lent zhm = []:=za0 i.df
theorem zpa {T : Tbl} [i : zdh T] : T.pl zhm=some (2,[]):=by unfold Fx.Tbl.pl; rw [i.df]; rfl
class zb3 (T : Tbl) : Prop where
 df : T.defs zeG=some zqa
 c0 : zaw T
 c1 : zdh T
 c2 : zaD T
 c3 : zb5 T
 c4 : zac T
instance {T : Tbl} [i : zb3 T] : zaw T:=i.c0
instance {T : Tbl} [i : zb3 T] : zdh T:=i.c1
instance {T : Tbl} [i : zb3 T] : zaD T:=i.c2
instance {T : Tbl} [i : zb3 T] : zb5 T:=i.c3
instance {T : Tbl} [i : zb3 T] : zac T:=i.c4
theorem zje {T : Tbl} [i : zb3 T] : T.lent zeG = []:=za0 i.df
theorem zlH {T : Tbl} [i : zb3 T] : T.pl zeG=some (2,[]):=by unfold Fx.Tbl.pl; rw [i.df]; rfl
class zbB (T : Tbl) : Prop where
 df : T.defs zcB=some zrC
theorem zkH {T : Tbl} [i : zbB T] : T.lent zcB = []:=za0 i.df
theorem znh {T : Tbl} [i : zbB T] : T.pl zcB=some (2,[]):=by unfold Fx.Tbl.pl; rw [i.df]; rfl
class zdK (T : Tbl) : Prop where
 df : T.defs zlb=some Df_first
 c0 : zav T
 c1 : zbB T
instance {T : Tbl} [i : zdK T] : zav T:=i.c0
instance {T : Tbl} [i : zdK T] : zbB T:=i.c1
theorem zpr {T : Tbl} [i : zdK T] : T.lent zlb = []:=za0 i.df
theorem pl_f_first {T : Tbl} [i : zdK T] : T.pl zlb=some (2,[]):=by unfold Fx.Tbl.pl; rw [i.df]; rfl
class zlq (T : Tbl) : Prop where
 df : T.defs f_some=some Df_some
 c0 : zdK T
instance {T : Tbl} [i : zlq T] : zdK T:=i.c0
theorem zr4 {T : Tbl} [i : zlq T] : T.lent f_some = []:=za0 i.df
theorem pl_f_some {T : Tbl} [i : zlq T] : T.pl f_some=some (2,[]):=by unfold Fx.Tbl.pl; rw [i.df]; rfl
class zfQ (T : Tbl) : Prop where
 df : T.defs zo3=some Df_every
 c0 : zav T
 c1 : zbB T
instance {T : Tbl} [i : zfQ T] : zav T:=i.c0
instance {T : Tbl} [i : zfQ T] : zbB T:=i.c1
theorem zps {T : Tbl} [i : zfQ T] : T.lent zo3 = []:=za0 i.df
theorem pl_f_every {T : Tbl} [i : zfQ T] : T.pl zo3=some (2,[]):=by unfold Fx.Tbl.pl; rw [i.df]; rfl
class zaU (T : Tbl) : Prop where
 df : T.defs zeF=some zq8
 c0 : zaw T
 c1 : zcE T
 c2 : zaA T
 c3 : zat T
 c4 : zae T
 c5 : zaM T
instance {T : Tbl} [i : zaU T] : zaw T:=i.c0
instance {T : Tbl} [i : zaU T] : zcE T:=i.c1
instance {T : Tbl} [i : zaU T] : zaA T:=i.c2
instance {T : Tbl} [i : zaU T] : zat T:=i.c3
instance {T : Tbl} [i : zaU T] : zae T:=i.c4
instance {T : Tbl} [i : zaU T] : zaM T:=i.c5
theorem zjd {T : Tbl} [i : zaU T] : T.lent zeF = []:=za0 i.df
theorem zlG {T : Tbl} [i : zaU T] : T.pl zeF=some (1,[]):=by unfold Fx.Tbl.pl; rw [i.df]; rfl
class zb8 (T : Tbl) : Prop where
 df : T.defs zd7=some zmf
 c0 : zaw T
 c1 : zcE T
 c2 : zaA T
instance {T : Tbl} [i : zb8 T] : zaw T:=i.c0
instance {T : Tbl} [i : zb8 T] : zcE T:=i.c1
instance {T : Tbl} [i : zb8 T] : zaA T:=i.c2
theorem zh2 {T : Tbl} [i : zb8 T] : T.lent zd7 = []:=za0 i.df
theorem ziX {T : Tbl} [i : zb8 T] : T.pl zd7=some (1,[]):=by unfold Fx.Tbl.pl; rw [i.df]; rfl
class zbF (T : Tbl) : Prop where
 df : T.defs zdn=some zqb
 c0 : zaM T
instance {T : Tbl} [i : zbF T] : zaM T:=i.c0
theorem zjf {T : Tbl} [i : zbF T] : T.lent zdn = []:=za0 i.df
theorem zlI {T : Tbl} [i : zbF T] : T.pl zdn=some (2,[]):=by unfold Fx.Tbl.pl; rw [i.df]; rfl
class zei (T : Tbl) : Prop where
 df : T.defs zjD=some Df_guards
 c0 : zbF T
 c1 : zb4 T
instance {T : Tbl} [i : zei T] : zbF T:=i.c0
instance {T : Tbl} [i : zei T] : zb4 T:=i.c1
theorem znK {T : Tbl} [i : zei T] : T.lent zjD = []:=za0 i.df
theorem zqK {T : Tbl} [i : zei T] : T.pl zjD=some (1,[]):=by unfold Fx.Tbl.pl; rw [i.df]; rfl
class zeh (T : Tbl) : Prop where
 df : T.defs zo2=some Df_spared
 c0 : zbF T
 c1 : zb4 T
 c2 : zah T
 c3 : zal T
instance {T : Tbl} [i : zeh T] : zbF T:=i.c0
instance {T : Tbl} [i : zeh T] : zb4 T:=i.c1
instance {T : Tbl} [i : zeh T] : zah T:=i.c2
instance {T : Tbl} [i : zeh T] : zal T:=i.c3
theorem znI {T : Tbl} [i : zeh T] : T.lent zo2 = []:=za0 i.df
theorem zqI {T : Tbl} [i : zeh T] : T.pl zo2=some (2,[]):=by unfold Fx.Tbl.pl; rw [i.df]; rfl
class zaL (T : Tbl) : Prop where
 df : T.defs zbW=some zlw
 c0 : zah T
 c1 : zaM T
instance {T : Tbl} [i : zaL T] : zah T:=i.c0
instance {T : Tbl} [i : zaL T] : zaM T:=i.c1
theorem zgk {T : Tbl} [i : zaL T] : T.lent zbW = []:=za0 i.df
theorem zhM {T : Tbl} [i : zaL T] : T.pl zbW=some (2,[]):=by unfold Fx.Tbl.pl; rw [i.df]; rfl
class zej (T : Tbl) : Prop where
 df : T.defs zla=some Df_flushed
 c0 : zaL T
 c1 : zb4 T
 c2 : zal T
instance {T : Tbl} [i : zej T] : zaL T:=i.c0
instance {T : Tbl} [i : zej T] : zb4 T:=i.c1
instance {T : Tbl} [i : zej T] : zal T:=i.c2
theorem zm6 {T : Tbl} [i : zej T] : T.lent zla = []:=za0 i.df
theorem zpb {T : Tbl} [i : zej T] : T.pl zla=some (2,[]):=by unfold Fx.Tbl.pl; rw [i.df]; rfl
class zdc (T : Tbl) : Prop where
 df : T.defs zcQ=some zow
theorem zhZ {T : Tbl} [i : zdc T] : T.lent zcQ = []:=za0 i.df
theorem zkl {T : Tbl} [i : zdc T] : T.pl zcQ=some (1,[]):=by unfold Fx.Tbl.pl; rw [i.df]; rfl
class zas (T : Tbl) : Prop where
 df : T.defs zbd=some zjq∨T.defs zbd=some zhz
 c0 : zdc T
 c1 : zbB T
 c2 : zav T
instance {T : Tbl} [i : zas T] : zdc T:=i.c0
instance {T : Tbl} [i : zas T] : zbB T:=i.c1
instance {T : Tbl} [i : zas T] : zav T:=i.c2
theorem zfW {T : Tbl} [i : zas T] : T.lent zbd = []:=i.df.elim za0 za0
theorem zgT {T : Tbl} [i : zas T] : T.pl zbd=some (3,[]):=by unfold Fx.Tbl.pl; rcases i.df with e | e <;> rw [e] <;> rfl
class zbC (T : Tbl) : Prop where
 df : T.defs zdT=some zlu
 lm13 : T.lams 13=some lam13
 c0 : zei T
 c1 : zas T
 c2 : zal T
instance {T : Tbl} [i : zbC T] : zei T:=i.c0
instance {T : Tbl} [i : zbC T] : zas T:=i.c1
instance {T : Tbl} [i : zbC T] : zal T:=i.c2
theorem zgi {T : Tbl} [i : zbC T] : T.lent zdT = []:=za0 i.df
theorem zhK {T : Tbl} [i : zbC T] : T.pl zdT=some (2,[]):=by unfold Fx.Tbl.pl; rw [i.df]; rfl
class ziU (T : Tbl) : Prop where
 df : T.defs zkS=some Dl_key
theorem lent_l_key {T : Tbl} [i : ziU T] : T.lent zkS = []:=za0 i.df
theorem pl_l_key {T : Tbl} [i : ziU T] : T.pl zkS=some (1,[]):=by unfold Fx.Tbl.pl; rw [i.df]; rfl
class zcd (T : Tbl) : Prop where
 df : T.defs zfh=some Dl_closure
 c0 : zeg T
 c1 : zdJ T
 c2 : zdb T
 c3 : ziU T
instance {T : Tbl} [i : zcd T] : zeg T:=i.c0
instance {T : Tbl} [i : zcd T] : zdJ T:=i.c1
instance {T : Tbl} [i : zcd T] : zdb T:=i.c2
instance {T : Tbl} [i : zcd T] : ziU T:=i.c3
theorem zm0 {T : Tbl} [i : zcd T] : T.lent zfh = []:=za0 i.df
theorem zp5 {T : Tbl} [i : zcd T] : T.pl zfh=some (3,[]):=by unfold Fx.Tbl.pl; rw [i.df]; rfl
class zcD (T : Tbl) : Prop where
 df : T.defs zid=some zrA
 c0 : zeg T
 c1 : zdJ T
 c2 : zfN T
 c3 : ziU T
instance {T : Tbl} [i : zcD T] : zeg T:=i.c0
instance {T : Tbl} [i : zcD T] : zdJ T:=i.c1
instance {T : Tbl} [i : zcD T] : zfN T:=i.c2
instance {T : Tbl} [i : zcD T] : ziU T:=i.c3
theorem zkF {T : Tbl} [i : zcD T] : T.lent zid = []:=za0 i.df
theorem znf {T : Tbl} [i : zcD T] : T.pl zid=some (2,[]):=by unfold Fx.Tbl.pl; rw [i.df]; rfl
class zlo (T : Tbl) : Prop where
 df : T.defs znO=some Dl_within
 c0 : zcd T
instance {T : Tbl} [i : zlo T] : zcd T:=i.c0
theorem znF {T : Tbl} [i : zlo T] : T.lent znO = []:=za0 i.df
theorem zqF {T : Tbl} [i : zlo T] : T.pl znO=some (2,[]):=by unfold Fx.Tbl.pl; rw [i.df]; rfl
class zrw (T : Tbl) : Prop where
 df : T.defs f_left=some Df_left
 c0 : zaP T
instance {T : Tbl} [i : zrw T] : zaP T:=i.c0
theorem zr5 {T : Tbl} [i : zrw T] : T.lent f_left = []:=za0 i.df
theorem pl_f_left {T : Tbl} [i : zrw T] : T.pl f_left=some (2,[]):=by unfold Fx.Tbl.pl; rw [i.df]; rfl
class zhw (T : Tbl) : Prop where
 df : T.defs zr9=some Dl_drawn
 c0 : zdX T
 c1 : zft T
 c2 : zda T
instance {T : Tbl} [i : zhw T] : zdX T:=i.c0
instance {T : Tbl} [i : zhw T] : zft T:=i.c1
instance {T : Tbl} [i : zhw T] : zda T:=i.c2
theorem zpp {T : Tbl} [i : zhw T] : T.lent zr9 = [0]:=za0 i.df
theorem pl_l_drawn {T : Tbl} [i : zhw T] : T.pl zr9=some (3,[]):=by unfold Fx.Tbl.pl; rw [i.df]; rfl
class zdg (T : Tbl) : Prop where
 df : T.defs ze4=some Dl_disk_of
theorem zlZ {T : Tbl} [i : zdg T] : T.lent ze4 = []:=za0 i.df
theorem zp4 {T : Tbl} [i : zdg T] : T.pl ze4=some (1,[]):=by unfold Fx.Tbl.pl; rw [i.df]; rfl
class zgz (T : Tbl) : Prop where
 df : T.defs l_walk=some Dl_walk
 c0 : zeg T
 c1 : zdg T
 c2 : zdJ T
 c3 : zeO T
 c4 : zdb T
instance {T : Tbl} [i : zgz T] : zeg T:=i.c0
instance {T : Tbl} [i : zgz T] : zdg T:=i.c1
instance {T : Tbl} [i : zgz T] : zdJ T:=i.c2
instance {T : Tbl} [i : zgz T] : zeO T:=i.c3
instance {T : Tbl} [i : zgz T] : zdb T:=i.c4
theorem zqR {T : Tbl} [i : zgz T] : T.lent l_walk = [0]:=za0 i.df
theorem pl_l_walk {T : Tbl} [i : zgz T] : T.pl l_walk=some (3,[]):=by unfold Fx.Tbl.pl; rw [i.df]; rfl
class zcw (T : Tbl) : Prop where
 df : T.defs zdR=some zlt
 c0 : zdg T
 c1 : ziU T
instance {T : Tbl} [i : zcw T] : zdg T:=i.c0
instance {T : Tbl} [i : zcw T] : ziU T:=i.c1
theorem zgh {T : Tbl} [i : zcw T] : T.lent zdR = []:=za0 i.df
theorem zhJ {T : Tbl} [i : zcw T] : T.pl zdR=some (2,[]):=by unfold Fx.Tbl.pl; rw [i.df]; rfl
class zhv (T : Tbl) : Prop where
 df : T.defs znP=some Dl_mended
 c0 : zeg T
 c1 : zfN T
instance {T : Tbl} [i : zhv T] : zeg T:=i.c0
instance {T : Tbl} [i : zhv T] : zfN T:=i.c1
theorem znH {T : Tbl} [i : zhv T] : T.lent znP = []:=za0 i.df
theorem zqH {T : Tbl} [i : zhv T] : T.pl znP=some (2,[]):=by unfold Fx.Tbl.pl; rw [i.df]; rfl
class zaC (T : Tbl) : Prop where
 df : T.defs zcl=some zjp
 lm18 : T.lams 18=some lam18
 c0 : zaL T
 c1 : zaw T
 c2 : zas T
 c3 : zal T
instance {T : Tbl} [i : zaC T] : zaL T:=i.c0
instance {T : Tbl} [i : zaC T] : zaw T:=i.c1
instance {T : Tbl} [i : zaC T] : zas T:=i.c2
instance {T : Tbl} [i : zaC T] : zal T:=i.c3
theorem zfV {T : Tbl} [i : zaC T] : T.lent zcl = []:=za0 i.df
theorem zgS {T : Tbl} [i : zaC T] : T.pl zcl=some (3,[]):=by unfold Fx.Tbl.pl; rw [i.df]; rfl
class zbg (T : Tbl) : Prop where
 df : T.defs zkQ=some Dl_results
 lm22 : T.lams 22=some lam22
 lm23 : T.lams 23=some lam23
 lm24 : T.lams 24=some lam24
 lm25 : T.lams 25=some lam25
 c0 : zav T
 c1 : zeQ T
 c2 : zaU T
 c3 : zb8 T
 c4 : zfQ T
 c5 : zlq T
 c6 : zdK T
 c7 : zb3 T
 c8 : zaC T
instance {T : Tbl} [i : zbg T] : zav T:=i.c0
instance {T : Tbl} [i : zbg T] : zeQ T:=i.c1
instance {T : Tbl} [i : zbg T] : zaU T:=i.c2
instance {T : Tbl} [i : zbg T] : zb8 T:=i.c3
instance {T : Tbl} [i : zbg T] : zfQ T:=i.c4
instance {T : Tbl} [i : zbg T] : zlq T:=i.c5
instance {T : Tbl} [i : zbg T] : zdK T:=i.c6
instance {T : Tbl} [i : zbg T] : zb3 T:=i.c7
instance {T : Tbl} [i : zbg T] : zaC T:=i.c8
theorem zlY {T : Tbl} [i : zbg T] : T.lent zkQ = []:=za0 i.df
theorem zp3 {T : Tbl} [i : zbg T] : T.pl zkQ=some (3,[]):=by unfold Fx.Tbl.pl; rw [i.df]; rfl
class zdA (T : Tbl) : Prop where
 df : T.defs zie=some zrB
 c0 : zdy T
 c1 : zdV T
 c2 : zam T
instance {T : Tbl} [i : zdA T] : zdy T:=i.c0
instance {T : Tbl} [i : zdA T] : zdV T:=i.c1
instance {T : Tbl} [i : zdA T] : zam T:=i.c2
theorem zkG {T : Tbl} [i : zdA T] : T.lent zie = []:=za0 i.df
theorem zng {T : Tbl} [i : zdA T] : T.pl zie=some (1,[]):=by unfold Fx.Tbl.pl; rw [i.df]; rfl
class zn0 (T : Tbl) : Prop where
 df : T.defs zkT=some Dl_choices
theorem zm1 {T : Tbl} [i : zn0 T] : T.lent zkT = []:=za0 i.df
theorem zp6 {T : Tbl} [i : zn0 T] : T.pl zkT=some (1,[]):=by unfold Fx.Tbl.pl; rw [i.df]; rfl
end Pl
end
section
set_option maxHeartbeats 4000000
namespace Pl
open Fx K
def psh (h : MH) (o : Ob) : MH:={ h with objs:=h.objs ++ [o] }
section
variable {a b : Val} {l r : List Val} {d : List (Val × Val)} {i j : Int} {s z : PySem.Str} {w u : Bool}
theorem po_add_i : za5 .add [.int i,.int j]=some (.int (i + j)):=rfl
theorem po_add_t : za5 .add [.tup w l,.tup u r]=zlP (l ++ r):=rfl
theorem po_add_l : za5 .add [.lst l,.lst r]=zcj (l ++ r):=rfl
theorem po_sub : za5 .sub [.int i,.int j]=some (.int (i - j)):=rfl
theorem po_mul : za5 .mul [.int i,.int j]=if small i || small j then some (.int (i * j)) else Option.none:=rfl
theorem po_mod : za5 .mod [.int i,.int j]=if 0 < j then some (.int (i % j)) else Option.none:=rfl
theorem po_fdiv : za5 .fdiv [.int i,.int j]=if 0 < j∧j < 1073741824 then some (.int (i / j)) else Option.none:=rfl
theorem po_pow : za5 .pow [.int i,.int j]=if 0≤j∧j≤1000000∧i.natAbs < 2 ^ 64 then some (.int (i ^ j.toNat)) else Option.none:=rfl
theorem po_neg : za5 .neg [.int i]=some (.int (-i)):=rfl
theorem po_eq : za5 .eq [a,b]=if isPD zaF a && isPD zaF b then some (.bool (peq a b)) else if eqDct a b then some (.bool true) else if !zba a && slfV zaF a b then some (.bool true) else Option.none:=rfl
theorem po_ne : za5 .ne [a,b]=if isPD zaF a && isPD zaF b then some (.bool (!peq a b)) else if !zba a && slfV zaF a b then some (.bool false) else Option.none:=rfl
theorem po_lt : za5 .lt [.int i,.int j]=some (.bool (decide (i < j))):=rfl
theorem po_le : za5 .le [.int i,.int j]=some (.bool (decide (i≤j))):=rfl
theorem po_gt : za5 .gt [.int i,.int j]=some (.bool (decide (j < i))):=rfl
theorem po_ge : za5 .ge [.int i,.int j]=some (.bool (decide (j≤i))):=rfl
theorem po_les : za5 .le [.str s,.str z]=some (.bool (strLe s z)):=rfl
theorem po_isin_t : za5 .isin [a,.tup w l]=if zba a && l.all zba then some (.bool (l.any fun y=>peq y a)) else Option.none:=rfl
theorem po_isin_d : za5 .isin [a,.dct d]=if dOkA d a then some (.bool (dget d a).isSome) else Option.none:=rfl
theorem po_notin_t : za5 .notin [a,.tup w l]=if zba a && l.all zba then some (.bool (!l.any fun y=>peq y a)) else Option.none:=rfl
theorem po_notin_d : za5 .notin [a,.dct d]=if dOkA d a then some (.bool (!(dget d a).isSome)) else Option.none:=rfl
def zck : Val→Bool
 | .none=>true
 | _=>false
theorem po_isNone : za5 .isNone [a]=some (.bool (zck a)):=by cases a <;> rfl
theorem po_notNone : za5 .notNone [a]=some (.bool (!zck a)):=by cases a <;> rfl
theorem po_isinst {ts : List Ty} : za5 (.isinst ts) [a]=if isPlain a then some (.bool (ts.any fun t=>zdS a t)) else Option.none:=rfl
theorem po_len_t : za5 .len [.tup w l]=some (.int l.length):=rfl
theorem po_len_l : za5 .len [.lst l]=some (.int l.length):=rfl
theorem po_item_t : za5 .item [.tup w l,.int i]=(ixAt l.length i).bind fun k=>l[k]?:=rfl
theorem zki : za5 .item [.lst l,.int i]=(ixAt l.length i).bind fun k=>l[k]?:=rfl
theorem po_item_d : za5 .item [.dct d,a]=if dOkA d a then dget d a else Option.none:=rfl
def okCut (x : Val) (lo hi : Option Int) : Option Val:=match x with
 | .tup _ l=>some (.tup false (cutL l lo hi))
 | .lst l=>some (.lst (cutL l lo hi))
 | _=>Option.none
theorem po_slLo : za5 (.slice true false) [a,.int i]=okCut a (some i) Option.none:=rfl
theorem po_slHi : za5 (.slice false true) [a,.int i]=okCut a Option.none (some i):=rfl
theorem po_slLH : za5 (.slice true true) [a,.int i,.int j]=okCut a (some i) (some j):=rfl
theorem po_slN : za5 (.slice false false) [a]=okCut a Option.none Option.none:=rfl
theorem okCut_t {lo hi} : okCut (.tup w l) lo hi=some (.tup false (cutL l lo hi)):=rfl
theorem okCut_l {lo hi} : okCut (.lst l) lo hi=some (.lst (cutL l lo hi)):=rfl
theorem po_get : za5 .get [.dct d,a,b]=if dOk d a then some ((dget d a).getD b) else Option.none:=rfl
theorem po_list_t : za5 .list [.tup w l]=some (.lst l):=rfl
theorem po_list_l : za5 .list [.lst l]=some (.lst l):=rfl
theorem po_list_d : za5 .list [.dct d]=if (d.all fun p=>isKs p.1) || d.all fun p=>isKn p.1 then some (.lst (d.map (·.1))) else Option.none:=rfl
theorem po_tuple_t : za5 .tuple [.tup w l]=some (.tup w l):=rfl
theorem po_tuple_l : za5 .tuple [.lst l]=some (.tup true l):=rfl
theorem zqC : za5 .sorted [.lst l]=sortOf l:=rfl
theorem po_sum : za5 .sum [.lst l]=(sumOf l).map .int:=rfl
theorem po_min2 : za5 .min2 [.int i,.int j]=some (.int (if j < i then j else i)):=rfl
theorem po_max2 : za5 .max2 [.int i,.int j]=some (.int (if j > i then j else i)):=rfl
theorem po_all : za5 .all [.lst l]=(allOf l).map .bool:=rfl
theorem po_any : za5 .any [.lst l]=(anyOf l).map .bool:=rfl
theorem po_toInt_i : za5 .toInt [.int i]=some (.int i):=rfl
theorem po_toInt_b : za5 .toInt [.bool w]=some (.int (b2i w)):=rfl
theorem po_toStr : za5 .toStr [.str s]=some (.str s):=rfl
theorem po_rev : za5 .rev [.lst l]=some (.lst l.reverse):=rfl
theorem tr_bool : Fx.truthy (.bool w)=some w:=rfl
theorem tr_int : Fx.truthy (.int i)=some (decide (i≠0)):=rfl
theorem tr_none : Fx.truthy .none=some false:=rfl
theorem tr_lst : Fx.truthy (.lst l)=some (!l.isEmpty):=rfl
theorem tr_tup : Fx.truthy (.tup w l)=some (!l.isEmpty):=rfl
end
section
variable {h : MH} {l : List Val} {d : List (Val × Val)} {i : Int} {s : PySem.Str} {w : Bool}
theorem de_none : zbN h .none = .none:=rfl
theorem de_bool : zbN h (.bool w) = .bool w:=rfl
theorem de_int : zbN h (.int i) = .int i:=rfl
theorem de_str : zbN h (.str s) = .str s:=rfl
theorem de_tup : zbN h (.tup w l) = .tup w l:=rfl
theorem de_lst : zbN h (.lst l) = .lst l:=rfl
theorem de_dct : zbN h (.dct d) = .dct d:=rfl
theorem de_clo {c cs} : zbN h (.clo c cs) = .clo c cs:=rfl
theorem de_fn {g} : zbN h (.fn g) = .fn g:=rfl
theorem de_vl {v : Val} (e : isVl v=true) : zbN h v=v:=by cases v <;> first | rfl | cases e
theorem pl_none : isPlain .none=true:=rfl
theorem pl_bool : isPlain (.bool w)=true:=rfl
theorem pl_int : isPlain (.int i)=true:=rfl
theorem pl_str : isPlain (.str s)=true:=rfl
theorem pl_tup : isPlain (.tup w l)=true:=rfl
theorem pl_lst : isPlain (.lst l)=true:=rfl
def resR (o : Option Slot) (h : MH) : Option Val:=(o.bind zn6).map (zbN h)
theorem resR_val {v} : resR (some (.val v)) h=some (zbN h v):=rfl
theorem resR_own {v} : resR (some (.own v)) h=some (zbN h v):=rfl
def resF (o : Option Slot) : Option Val:=match o with
 | some (.own v)=>some v
 | _=>Option.none
theorem resF_own {v} : resF (some (.own v))=some v:=rfl
theorem rs_v {x : Val} {σ : Fr} : resolve (.v x) σ h=some (zbN h x):=rfl
theorem rs_sl {i : Nat} {σ : Fr} : resolve (.sl i) σ h=resR σ[i]? h:=rfl
theorem rs_fl {a f : Nat} {σ : Fr} : resolve (.fl a f) σ h=resF (fieldOf h a f):=rfl
theorem ra_nil {σ : Fr} : za9 [] σ h=some []:=rfl
theorem ra_cons {o : OV} {r : List OV} {σ : Fr} : za9 (o :: r) σ h=(resolve o σ h).bind fun v=>(za9 r σ h).map (v :: ·):=rfl
end
section
variable {α β : Type} {T : Tbl} {C : Callee} {σ : Fr} {h : MH}
theorem fin_b {p vs} : fin p vs σ h=opt ((za9 vs σ h).bind (za5 p)) σ h:=by
 unfold fin
 cases za9 vs σ h with
 | none=>rfl
 | some xs=>show (match za5 p xs with | some v=>_ | Option.none=>_)=opt (za5 p xs) σ h; cases za5 p xs <;> rfl
def fldR (o : Option Slot) (σ : Fr) (h : MH) : Res Val:=match o with
 | some (.val w)=>.ok w σ h
 | _=>.stuck
theorem fldR_val {w} : fldR (some (.val w)) σ h = .ok w σ h:=rfl
def fldK (f : Nat) (v : Val) : Fr→MH→Res Val:=fun σ h=>match v with
 | .ref a=>fldR (fieldOf h a f) σ h
 | _=>.stuck
theorem fldK_a {f a} : fldK f (.ref a) σ h=fldR (fieldOf h a f) σ h:=rfl
theorem ev_fldn {e f} : ev T C (.fld e f) σ h=rb (ev T C e σ h) (fldK f):=by
 show rb (ev T C e σ h) _ = _
 congr 1
def fldmR (a f : Nat) (o : Option Slot) (σ : Fr) (h : MH) : Res Val:=match o with
 | some (.val w)=>.ok w σ h
 | some (.own w)=>(match setField h a f (.val w) with
  | some h'=>.ok w σ h'
  | Option.none=>.stuck)
 | _=>.stuck
theorem fldmR_val {a f w} : fldmR a f (some (.val w)) σ h = .ok w σ h:=rfl
def fldmK (f : Nat) (v : Val) : Fr→MH→Res Val:=fun σ h=>match v with
 | .ref a=>fldmR a f (fieldOf h a f) σ h
 | _=>.stuck
theorem fldmK_a {f a} : fldmK f (.ref a) σ h=fldmR a f (fieldOf h a f) σ h:=rfl
theorem ev_fldmn {e f} : ev T C (.fldm e f) σ h=rb (ev T C e σ h) (fldmK f):=by
 show rb (ev T C e σ h) _ = _
 congr 1
theorem pl_bind {g ix} {ys : List AV} : ((T.defs g).bind fun d=>zaq d.params ix d.defaults ys)=(T.pl g).bind fun p=>zaq p.1 ix p.2 ys:=by
 unfold Tbl.pl; cases T.defs g <;> rfl
noncomputable def zmd (T : Tbl) (C : Callee) (g : Nat) (o : Option (List AV)) : Fr→MH→Res Val:=fun σ h=>match o with
 | Option.none=>.stuck
 | some as=>zhq C (.fn g) (T.lent g) as σ h
theorem callP_a {g as} : zmd T C g (some as) σ h=zhq C (.fn g) (T.lent g) as σ h:=rfl
def plA (T : Tbl) (g : Nat) (ix : List Nat) (ys : List AV) : Option (List AV):=(T.pl g).bind fun p=>zaq p.1 ix p.2 ys
theorem plA_u {g ix ys} : plA T g ix ys=(T.pl g).bind fun p=>zaq p.1 ix p.2 ys:=rfl
theorem callC_pl {g ix} {xs : List AV} : callC C (.fn g) (T.lent g) xs (fun ys=>(T.defs g).bind fun d=>zaq d.params ix d.defaults ys)=zmd T C g (plA T g ix xs):=by
 have e : ((T.defs g).bind fun d=>zaq d.params ix d.defaults xs)=plA T g ix xs:=pl_bind
 show (match (T.defs g).bind (fun d=>zaq d.params ix d.defaults xs) with | Option.none=>fun _ _=>Res.stuck | some as=>zhq C (.fn g) (T.lent g) as) = _
 rw [e]
 cases plA T g ix xs <;> rfl
noncomputable def methR (T : Tbl) (C : Callee) (o : Val) (as : Args) (ix : List Nat) (g : Option Nat) : Fr→MH→Res Val:=fun σ h=>match g with
 | Option.none=>.stuck
 | some g=>rb (eva T C as σ h) fun xs=>zmd T C g (plA T g (0 :: ix) (.v o :: xs))
theorem methR_a {o as ix g} : methR T C o as ix (some g) σ h=rb (eva T C as σ h) fun xs=>zmd T C g (plA T g (0 :: ix) (.v o :: xs)):=rfl
noncomputable def methK (T : Tbl) (C : Callee) (m : Nat) (as : Args) (ix : List Nat) (o : Val) : Fr→MH→Res Val:=fun σ h=>methR T C o as ix (ziO T h o m) σ h
theorem methK_a {m as ix o} : methK T C m as ix o σ h=methR T C o as ix (ziO T h o m) σ h:=rfl
theorem ev_methn {e m as ix} : ev T C (.meth e m as ix) σ h=rb (ev T C e σ h) (methK T C m as ix):=by
 show rb (ev T C e σ h) _ = _
 congr 1; funext o σ h
 unfold methK
 cases q : ziO T h o m with
 | none=>rfl
 | some g =>
  show rb (eva T C as σ h) _=rb (eva T C as σ h) _
  congr 1; funext xs
  exact callC_pl
noncomputable def callkK (T : Tbl) (C : Callee) (g : Nat) (ix : List Nat) (xs : List AV) : Fr→MH→Res Val:=zmd T C g (plA T g ix xs)
theorem callkK_a {g ix xs} : callkK T C g ix xs σ h=zmd T C g (plA T g ix xs) σ h:=rfl
theorem ev_callkn {g as ix} : ev T C (.callk g as ix) σ h=rb (eva T C as σ h) (callkK T C g ix):=by
 show rb (eva T C as σ h) _ = _
 congr 1; funext xs
 exact callC_pl
noncomputable def newR (T : Tbl) (C : Callee) (c : Nat) (ix : List Nat) (xs : List AV) (g : Option Nat) : Fr→MH→Res Val:=fun σ h=>match g with
 | Option.none=>.stuck
 | some g=>rb (zmd T C g (plA T g (0 :: ix) (.v (.ref h.objs.length) :: xs)) σ (psh h (.inst c []))) fun r=>if zck r then rt (.ref h.objs.length) else fun _ _=>.stuck
theorem newR_a {c ix xs g} : newR T C c ix xs (some g) σ h=rb (zmd T C g (plA T g (0 :: ix) (.v (.ref h.objs.length) :: xs)) σ (psh h (.inst c []))) fun r=>if zck r then rt (.ref h.objs.length) else fun _ _=>.stuck:=rfl
noncomputable def newK (T : Tbl) (C : Callee) (c : Nat) (ix : List Nat) (xs : List AV) : Fr→MH→Res Val:=fun σ h=>newR T C c ix xs (T.zgq c) σ h
theorem newK_a {c ix xs} : newK T C c ix xs σ h=newR T C c ix xs (T.zgq c) σ h:=rfl
theorem ev_newn {c as ix} : ev T C (.new c as ix) σ h=rb (eva T C as σ h) (newK T C c ix):=by
 show rb (eva T C as σ h) _ = _
 congr 1; funext xs σ h
 unfold newK
 cases q : T.zgq c with
 | none=>rfl
 | some g =>
  show (match T.defs g with | Option.none=>Res.stuck | some d=>_) = _
  rw [newR_a]
  unfold plA Tbl.pl
  cases q2 : T.defs g with
  | none=>rfl
  | some d =>
   have e1 : callC C (.fn g) (T.lent g) (AV.v (.ref h.objs.length) :: xs) (fun ys=>zaq d.params (0 :: ix) d.defaults ys)=zmd T C g (zaq d.params (0 :: ix) d.defaults (AV.v (.ref h.objs.length) :: xs)):=by
    show (match zaq d.params (0 :: ix) d.defaults (AV.v (.ref h.objs.length) :: xs) with | Option.none=>fun _ _=>Res.stuck | some as=>zhq C (.fn g) (T.lent g) as) = _
    cases zaq d.params (0 :: ix) d.defaults (AV.v (.ref h.objs.length) :: xs) <;> rfl
   show rb (callC C (.fn g) (T.lent g) _ (fun ys=>zaq d.params (0 :: ix) d.defaults ys) σ _) _=rb (zmd T C g (zaq d.params (0 :: ix) d.defaults _) σ _) _
   rw [e1]
   congr 1; funext r; cases r <;> rfl
theorem pa1 {x : AV} : zaq 1 [0] [] [x]=some [x]:=rfl
theorem pa2 {x y : AV} : zaq 2 [0,1] [] [x,y]=some [x,y]:=rfl
theorem pa3 {x y z : AV} : zaq 3 [0,1,2] [] [x,y,z]=some [x,y,z]:=rfl
theorem pa4 {x y z u : AV} : zaq 4 [0,1,2,3] [] [x,y,z,u]=some [x,y,z,u]:=rfl
theorem pa5 {x y z u v : AV} : zaq 5 [0,1,2,3,4] [] [x,y,z,u,v]=some [x,y,z,u,v]:=rfl
theorem pa6 {x y z u v w : AV} : zaq 6 [0,1,2,3,4,5] [] [x,y,z,u,v,w]=some [x,y,z,u,v,w]:=rfl
noncomputable def callvK (T : Tbl) (C : Callee) (as : Args) (f : Val) : Fr→MH→Res Val:=fun σ h=>match f with
 | .fn g=>rb (eva T C as σ h) fun xs=>zhq C (.fn g) (T.lent g) xs
 | .clo l cs=>rb (eva T C as σ h) fun xs=>zhq C (.lam l cs) [] xs
 | _=>.stuck
theorem callvK_fn {as g} : callvK T C as (.fn g) σ h=rb (eva T C as σ h) fun xs=>zhq C (.fn g) (T.lent g) xs:=rfl
theorem callvK_clo {as l cs} : callvK T C as (.clo l cs) σ h=rb (eva T C as σ h) fun xs=>zhq C (.lam l cs) [] xs:=rfl
theorem ev_callvn {e as} : ev T C (.callv e as) σ h=rb (ev T C e σ h) (callvK T C as):=by
 show rb (ev T C e σ h) _ = _
 congr 1; funext f σ h; cases f <;> rfl
theorem ev_callo {g as} : ev T C (.call g as) σ h=rb (eva T C as σ h) fun xs=>zhq C (.fn g) (T.lent g) xs:=rfl
def freeS : Option Slot→Bool
 | some .un=>true
 | some (.val _)=>true
 | _=>false
theorem freeS_un : freeS (some .un)=true:=rfl
theorem freeS_val {v} : freeS (some (.val v))=true:=rfl
theorem freeSlot_a {i : Nat} : freeSlot σ i=freeS σ[i]?:=by
 show (match σ[i]? with | some .un=>true | some (.val _)=>true | _=>false) = _
 cases σ[i]? with
 | none=>rfl
 | some s=>cases s <;> rfl
theorem wipe_nil : Fx.wipe [] σ = σ:=rfl
theorem wipe_cons {i own} : Fx.wipe (i :: own) σ=Fx.wipe own (σ.set i .un):=rfl
theorem rest_nil {σ₀} : restore [] σ₀ σ = σ:=rfl
theorem rest_cons {i own σ₀} : restore (i :: own) σ₀ σ=restore own σ₀ (σ.set i (σ₀.getD i .un)):=rfl
theorem getD_0 {s : Slot} {r : Fr} : (s :: r).getD 0 .un=s:=rfl
theorem getD_s {s : Slot} {r : Fr} {i : Nat} : (s :: r).getD (i + 1) .un=r.getD i .un:=rfl
def snapR (v : Val) (o : Option (List Val)) (σ : Fr) (h : MH) : Res ((MH→Prop) × List Val):=match o with
 | some vs=>.ok (Stood v h,vs) σ h
 | Option.none=>.stuck
def snapK (v : Val) : Fr→MH→Res ((MH→Prop) × List Val):=fun σ h=>snapR v (zjU h v) σ h
theorem snapK_a {v} : snapK v σ h=snapR v (zjU h v) σ h:=rfl
theorem snapR_some {v vs} : snapR v (some vs) σ h = .ok (Stood v h,vs) σ h:=rfl
theorem snap_lst {l : List Val} : zjU h (.lst l)=some l:=rfl
theorem snap_tup {w} {l : List Val} : zjU h (.tup w l)=some l:=rfl
theorem snapM_a {m : Fr→MH→Res Val} : snapM m σ h=rb (m σ h) snapK:=by
 show rb (m σ h) _ = _
 congr 1
def walkK {α : Type} (k : (MH→Prop)→List Val→Fr→MH→Res α) (gv : (MH→Prop) × List Val) : Fr→MH→Res α:=k gv.1 gv.2
theorem walkK_a {α : Type} {k : (MH→Prop)→List Val→Fr→MH→Res α} {g vs} : walkK k (g,vs) σ h=k g vs σ h:=rfl
theorem walkG_a {α : Type} {m : Fr→MH→Res Val} {k : (MH→Prop)→List Val→Fr→MH→Res α} : zqr m k σ h=rb (snapM m σ h) (walkK k):=rfl
theorem ev_comphn {e own p x ifs} : ev T C (.comph e own p x ifs) σ h=zqr (ev T C x) (fun g vs=>inBlock own (bnd (zro g own p (evt T C ifs) (bnd (ev T C e) fun y=>rt [y]) vs) fun ys=>opt (zcj ys))) σ h:=rfl
theorem ev_comp2hn {e own p x own2 p2 x2 ifs} : ev T C (.comp2h e own p x own2 p2 x2 ifs) σ h=zqr (ev T C x) (fun g vs=>inBlock own (bnd (zro g own p (rt true) (zqr (ev T C x2) fun g2 ws σ h=>zro g2 own2 p2 (evt T C ifs) (bnd (ev T C e) fun y=>rt [y]) ws (Fx.wipe own2 σ) h) vs) fun ys=>opt (zcj ys))) σ h:=rfl
noncomputable def forhK (p : Pat) (b : Fr→MH→SRes) (gv : (MH→Prop) × List Val) : Fr→MH→SRes:=forG gv.1 p b gv.2
theorem forhK_a {p b g vs} : forhK p b (g,vs) σ h=forG g p b vs σ h:=rfl
theorem ex_forh {p x b} : ex T C (.forh p x b) σ h=ro (snapM (ev T C x) σ h) (forhK p (exs T C b)):=rfl
theorem iter_lst {l : List Val} : zkV h (.lst l)=some l:=rfl
theorem iter_tup {w} {l : List Val} : zkV h (.tup w l)=some l:=rfl
def evieK (v : Val) : Fr→MH→Res (List Val):=fun σ h=>opt (zkV h v) σ h
theorem evieK_a {v} : evieK v σ h=opt (zkV h v) σ h:=rfl
theorem evi_en {x} : evi T C (.e x) σ h=rb (ev T C x σ h) evieK:=rfl
def zipK (vs : List Val) : Fr→MH→Res (List Val):=fun σ h=>opt (zlC vs) σ h
theorem zipK_a {vs} : zipK vs σ h=opt (zlC vs) σ h:=rfl
theorem evi_zipn {es} : evi T C (.zipM es) σ h=rb (evs T C es σ h) zipK:=rfl
theorem zm_ll {a b : List Val} : zlC [.lst a,.lst b]=some ((a.zip b).map fun p=>.tup false [p.1,p.2]):=rfl
theorem zm_lt {a b : List Val} {w} : zlC [.lst a,.tup w b]=some ((a.zip b).map fun p=>.tup false [p.1,p.2]):=rfl
theorem zm_tl {a b : List Val} {w} : zlC [.tup w a,.lst b]=some ((a.zip b).map fun p=>.tup false [p.1,p.2]):=rfl
theorem zm_tt {a b : List Val} {w u} : zlC [.tup w a,.tup u b]=some ((a.zip b).map fun p=>.tup false [p.1,p.2]):=rfl
theorem zm_lll {a b c : List Val} : zlC [.lst a,.lst b,.lst c]=some ((a.zip (b.zip c)).map fun p=>.tup false [p.1,p.2.1,p.2.2]):=rfl
theorem zm_ltl {a b c : List Val} {w} : zlC [.lst a,.tup w b,.lst c]=some ((a.zip (b.zip c)).map fun p=>.tup false [p.1,p.2.1,p.2.2]):=rfl
def ziptK (vs : List Val) : Fr→MH→Res (List Val):=match vs with
 | [.lst a,.lst b]=>rt ((a.zip b).map fun p=>.tup false [p.1,p.2])
 | [.tup _ a,.tup _ b]=>rt ((a.zip b).map fun p=>.tup false [p.1,p.2])
 | _=>fun _ _=>.stuck
theorem ziptK_l {a b : List Val} : ziptK [.lst a,.lst b] σ h = .ok ((a.zip b).map fun p=>.tup false [p.1,p.2]) σ h:=rfl
theorem ziptK_t {a b : List Val} {w u} : ziptK [.tup w a,.tup u b] σ h = .ok ((a.zip b).map fun p=>.tup false [p.1,p.2]) σ h:=rfl
theorem evi_zipo {es} : evi T C (.zip es) σ h=rb (evs T C es σ h) ziptK:=rfl
def enumK (v : Val) : Fr→MH→Res (List Val):=fun σ h=>match v with
 | .lst l=>.ok (zpR 0 l) σ h
 | .tup _ l=>.ok (zpR 0 l) σ h
 | _=>.stuck
theorem enumK_l {l : List Val} : enumK (.lst l) σ h = .ok (zpR 0 l) σ h:=rfl
theorem evi_enumn {x} : evi T C (.enum x) σ h=rb (ev T C x σ h) enumK:=by
 show rb (ev T C x σ h) _ = _
 congr 1; funext v σ h; cases v <;> rfl
noncomputable def rangeF (vs : List Val) : Fr→MH→Res (List Val):=match vs with
 | [.int n]=>if fits n then rt (zg3 0 n) else fun _ _=>.stuck
 | [.int a,.int b]=>if fits a && fits b then rt (zg3 a b) else fun _ _=>.stuck
 | _=>fun _ _=>.stuck
theorem zoP : ∃ g,g=rangeF:=⟨_,rfl⟩
noncomputable def rangeK : List Val→Fr→MH→Res (List Val):=Classical.choose zoP
theorem zoQ : rangeK=rangeF:=Classical.choose_spec zoP
theorem rangeK_1 {i : Int} (e : fits i=true) : rangeK [.int i] σ h = .ok (zg3 0 i) σ h:=by
 rw [zoQ]
 show (if fits i then rt (zg3 0 i) else fun _ _=>.stuck) σ h = _
 rw [if_pos e]; rfl
theorem evi_rangen {es} : evi T C (.range es) σ h=rb (evs T C es σ h) rangeK:=by rw [zoQ]; rfl
def forK (p : Pat) (b : Fr→MH→SRes) (vs : List Val) : Fr→MH→SRes:=forL p b vs
theorem forK_a {p b vs} : forK p b vs σ h=forL p b vs σ h:=rfl
theorem ex_forn {p it b} : ex T C (.for p it b) σ h=ro (evi T C it σ h) (forK p (exs T C b)):=rfl
def boxK (v : Val) : Fr→MH→Res Val:=fun σ h=>match v with
 | .lst l=>.ok (.ref h.objs.length) σ { h with objs:=h.objs ++ [.hl l] }
 | .dct l=>.ok (.ref h.objs.length) σ { h with objs:=h.objs ++ [.hd l] }
 | _=>.stuck
theorem boxK_l {l : List Val} : boxK (.lst l) σ h = .ok (.ref h.objs.length) σ (psh h (.hl l)):=rfl
theorem boxK_d {l : List (Val × Val)} : boxK (.dct l) σ h = .ok (.ref h.objs.length) σ (psh h (.hd l)):=rfl
theorem ev_boxn {e} : ev T C (.box e) σ h=rb (ev T C e σ h) boxK:=by
 show rb (ev T C e σ h) _ = _
 congr 1
def stR (x : Val) (f : Val→Val→Option Val) (i : Nat) (o : Option Slot) (σ : Fr) (h : MH) : SRes:=match o with
 | some (.own v)=>(match f v x with
   | some w=>.nx (σ.set i (.own w)) h
   | Option.none=>.stuck)
 | some (.val v)=>zgw v x f σ h
 | _=>.stuck
theorem stO_sl {x f i} : ze1 (.sl i) x f σ h=stR x f i σ[i]? σ h:=rfl
theorem zqt {x f i v w} (e : f v x=some w) : stR x f i (some (.own v)) σ h = .nx (σ.set i (.own w)) h:=by unfold stR; dsimp only; rw [e]
theorem stO_v {x f w} : ze1 (.v w) x f σ h=zgw w x f σ h:=rfl
def chgK (d : Option Bool) (rest : Fr→MH→Res Val) (f : Val→Val→Option Val) (os : List OV) : Fr→MH→SRes:=fun σ h =>
 ro (early d os σ h) fun _=>zaZ rest fun x=>chg1 os x f
where chg1 (os : List OV) (x : Val) (f : Val→Val→Option Val) : Fr→MH→SRes:=match os with
 | [o]=>ze1 o x f
 | _=>fun _ _=>.stuck
theorem chgK_a {d rest f o} : chgK d rest f [o] σ h=ro (early d [o] σ h) fun _=>zaZ rest fun x=>ze1 o x f:=rfl
theorem change_n {d p rest f} : change T C d p rest f σ h=ro (evo T C (plcO p) σ h) (chgK d rest f):=by
 show ro (evo T C (plcO p) σ h) _ = _
 congr 1
theorem ex_extend {p e} : ex T C (.extend p e) σ h=change T C (some false) p (ev T C e) zlc σ h:=rfl
def chdK (rest : Fr→MH→Res Val) (f : Val→Val→Option Val) (os : List OV) : Fr→MH→SRes:=fun σ h=>match os with
 | [o]=>if ownDct o σ h then zaZ rest (fun x=>ze1 o x f) σ h else .stuck
 | _=>.stuck
theorem chdK_a {rest f o} : chdK rest f [o] σ h=if ownDct o σ h then ro (rest σ h) (fun x=>ze1 o x f) else .stuck:=rfl
theorem ex_update {p e} : ex T C (.update p e) σ h=ro (evo T C (plcO p) σ h) (chdK (ev T C e) updateV):=by
 show ro (evo T C (plcO p) σ h) _ = _
 congr 1
def setIf (w x : Val) : Option Val:=match x with
  | .tup _ [kv,v]=>setV kv w v
  | _=>Option.none
theorem ex_setIn {p k e} : ex T C (.setI p k e) σ h=ro (ev T C e σ h) fun v=>change T C Option.none p (bnd (ev T C k) fun kv=>rt (.tup false [kv,v])) setIf:=rfl
def retOR (i : Nat) (o : Option Slot) (σ : Fr) (h : MH) : SRes:=match o with
 | some (.own v)=>.ret v (σ.set i .un) h
 | _=>.stuck
theorem retOR_own {i v} : retOR i (some (.own v)) σ h = .ret v (σ.set i .un) h:=rfl
theorem ex_retO {i} : ex T C (.retO i) σ h=retOR i σ[i]? σ h:=rfl
def setPR (s : Option Fr) (h : MH) : SRes:=match s with
 | some σ'=>.nx σ' h
 | Option.none=>.stuck
theorem setPR_some {h} : setPR (some σ) h = .nx σ h:=rfl
theorem ex_parn {ts as} : ex T C (.par ts as) σ h=ro (eva T C as σ h) fun vs σ h=>setPR (zbT ts vs σ) h:=by
 show ro (eva T C as σ h) _ = _
 congr 1
theorem sp_nil : zbT [] [] σ=some σ:=rfl
theorem sp_v {i is v vs} : zbT (i :: is) (.v v :: vs) σ=if okS σ[i]? then zbT is vs (σ.set i (.val v)) else Option.none:=rfl
theorem sp_f {i is v vs} : zbT (i :: is) (.f v :: vs) σ=if okS σ[i]? then zbT is vs (σ.set i (.own v)) else Option.none:=rfl
theorem ev_dictE : ev T C (.dct .nil .nil) σ h = .ok (.dct []) σ h:=rfl
theorem isLD_l {l : List Val} : isLD (.lst l)=true:=rfl
theorem isLD_d {l : List (Val × Val)} : isLD (.dct l)=true:=rfl
theorem isk_l {l : List Val} : zg9 (some false) (some [.lst l])=true:=rfl
theorem isk_n {v} : zg9 Option.none (some [v])=true:=rfl
def setFR (a f : Nat) (s : Slot) (σ : Fr) (h : MH) : SRes:=if roomAt h a then (match setField h a f s with
   | some h'=>.nx σ h'
   | Option.none=>.stuck) else .stuck
def setFK (f : Nat) (v x : Val) : Fr→MH→SRes:=fun σ h=>match x with
 | .ref a=>setFR a f (.val v) σ h
 | _=>.stuck
theorem setFK_a {f v a} : setFK f v (.ref a) σ h=setFR a f (.val v) σ h:=rfl
theorem ex_setFn {o f e} : ex T C (.setF o f e) σ h=ro (ev T C e σ h) fun v=>zaZ (ev T C o) (setFK f v):=by
 show ro (ev T C e σ h) _ = _
 congr 1
def setFOK (f : Nat) (v x : Val) : Fr→MH→SRes:=fun σ h=>match x with
 | .ref a=>if (fieldOf h a f).isNone && isLD v then setFR a f (.own v) σ h else .stuck
 | _=>.stuck
theorem setFOK_a {f v a} : setFOK f v (.ref a) σ h=if (fieldOf h a f).isNone && isLD v then setFR a f (.own v) σ h else .stuck:=rfl
theorem ex_setFOn {o f e} : ex T C (.setFO o f e) σ h=ro (ev T C e σ h) fun v=>zaZ (ev T C o) (setFOK f v):=by
 show ro (ev T C e σ h) _ = _
 congr 1; funext v σ h
 show ro (ev T C o σ h) _=ro (ev T C o σ h) _
 congr 1; funext x σ h
 cases x with
 | ref a =>
  show (if ((fieldOf h a f).isNone && isLD v && roomAt h a)=true then _ else _)=(if ((fieldOf h a f).isNone && isLD v)=true then (if roomAt h a then _ else _) else _)
  cases (fieldOf h a f).isNone <;> cases isLD v <;> cases roomAt h a <;> rfl
 | _=>rfl
end
section
variable {T : Tbl} {n g : Nat} {d : Def} {as : List Slot} {h : MH}
theorem enter_p (h1 : as.length=d.params) (h2 : d.caps = 0) (h3 : d.za1 = []) (h4 : d.cells = []) : enter d as [] h=some (as ++ List.replicate (d.slots - d.params) .un,h):=by
 unfold enter
 rw [if_pos ⟨h1,by rw [h2]; rfl,rfl⟩,h3,h4,h2]
 rfl
theorem call_Q {Q : Val→List Slot→MH→Prop} (hd : T.defs g=some d) {fr : Fr} {h1 : MH} (e : enter d as [] h=some (fr,h1))
  (r : RetS (fun v σ h2=>(σ.take d.params ++ σ.drop (d.params + d.caps)).all zcf=true∧Q v (σ.take d.params) h2) (exs T (Fx.call T n) d.body fr h1)) :
  ∃ v outs h2,Fx.call T (n + 1) (.fn g) as h = .ok v outs h2∧Q v outs h2:=by
 cases q : exs T (Fx.call T n) d.body fr h1 with
 | ret v σ h2=>rw [q] at r; exact ⟨v,_,h2,zdH hd e q r.w.1,r.w.2⟩
 | nx σ h2=>rw [q] at r; exact ⟨.none,_,h2,call_nx hd e q r.w.1,r.w.2⟩
 | _=>rw [q] at r; exact r.w.elim
theorem call_E {v : Val} {outs : List Slot} {h2 : MH} (hd : T.defs g=some d) {fr : Fr} {h1 : MH} (e : enter d as [] h=some (fr,h1))
  (r : RetS (fun w σ h'=>(σ.take d.params ++ σ.drop (d.params + d.caps)).all zcf=true∧w=v∧σ.take d.params=outs∧h' = h2) (exs T (Fx.call T n) d.body fr h1)) :
  Fx.call T (n + 1) (.fn g) as h = .ok v outs h2:=by
 obtain ⟨v',o',h',q,rfl,rfl,rfl⟩:=call_Q (Q:=fun w o h'=>w=v∧o=outs∧h' = h2) hd e r
 exact q
theorem call_q {Q : Val→List Slot→MH→Prop} (hd : T.defs g=some d) (h1 : as.length=d.params) (h2 : d.caps = 0) (h3 : d.za1 = []) (h4 : d.cells = [])
  (r : RetS (fun v σ h2=>(σ.take d.params ++ σ.drop (d.params + d.caps)).all zcf=true∧Q v (σ.take d.params) h2) (exs T (Fx.call T n) d.body (as ++ List.replicate (d.slots - d.params) .un) h)) :
  ∃ v outs h2,Fx.call T (n + 1) (.fn g) as h = .ok v outs h2∧Q v outs h2:=call_Q hd (enter_p h1 h2 h3 h4) r
theorem call_e {v : Val} {outs : List Slot} {h2 : MH} (hd : T.defs g=some d) (h1 : as.length=d.params) (h2' : d.caps = 0) (h3 : d.za1 = []) (h4 : d.cells = [])
  (r : RetS (fun w σ h'=>(σ.take d.params ++ σ.drop (d.params + d.caps)).all zcf=true∧w=v∧σ.take d.params=outs∧h' = h2) (exs T (Fx.call T n) d.body (as ++ List.replicate (d.slots - d.params) .un) h)) :
  Fx.call T (n + 1) (.fn g) as h = .ok v outs h2:=call_E hd (enter_p h1 h2' h3 h4) r
end
end Pl
end
section
set_option maxHeartbeats 4000000
namespace Pl
open Fx K
section
variable {α β : Type} {T : Tbl} {C : Callee} {σ : Fr} {h : MH}
theorem cpS_a {α : Type} {p : Pat} {t : Fr→MH→Res Bool} {f : Fr→MH→Res (List α)} {v : Val} : cpS p t f v σ h=rb (asgM p v σ h) fun _=>bnd t fun b=>bnd (if b then f else rt []) rt:=by
 unfold cpS
 congr 1; funext u σ h
 show rb (t σ h) _=rb (t σ h) _
 congr 1; funext b σ h
 cases b
 ·rfl
 ·show f σ h=rb (f σ h) _; cases f σ h <;> rfl
theorem whS_a {t : Fr→MH→Res Bool} {b : Fr→MH→SRes} : whS t b σ h=ro (t σ h) fun c=>if c then b else fun σ h=>.brk σ h:=rfl
theorem reC_p {h' : MH} (hp : σ.all zcf=true) : reC σ h h' = h':=reC_pure hp
theorem zq0 {l : List Val} {v : Val} (e : l.length < 16777216) : ziw (.lst l) v=some (.lst (l ++ [v])):=by
 show (if l.length < line then _ else _) = _
 exact if_pos e
theorem zpO {l r : List Val} (e : (l ++ r).length≤16777216) : zlc (.lst l) (.lst r)=some (.lst (l ++ r)):=by
 show zcj (l ++ r) = _
 exact if_pos e
theorem qmore : peq (.str "look") (.str "barrier")=false∧peq (.str "look") (.str "flush")=false∧peq (.str "put") (.str "barrier")=false∧peq (.str "put") (.str "flush")=false∧peq (.str "barrier") (.str "barrier")=true∧peq (.str "barrier") (.str "flush")=false∧peq (.str "flush") (.str "barrier")=false∧peq (.str "flush") (.str "flush")=true∧zba (.str "look")=true∧zba (.str "put")=true∧zba (.str "barrier")=true∧zba (.str "flush")=true:=by decide +kernel
theorem inb : zck .none=true∧(∀ b,zck (.bool b)=false)∧(∀ i,zck (.int i)=false)∧(∀ s,zck (.str s)=false)∧(∀ b l,zck (.tup b l)=false)∧(∀ l,zck (.lst l)=false)∧(∀ l,zck (.dct l)=false)∧(∀ a,zck (.ref a)=false)∧(∀ g,zck (.fn g)=false)∧(∀ l c,zck (.clo l c)=false):=⟨rfl,fun _=>rfl,fun _=>rfl,fun _=>rfl,fun _ _=>rfl,fun _=>rfl,fun _=>rfl,fun _=>rfl,fun _=>rfl,fun _ _=>rfl⟩
theorem ixs : ixAt 1 0=some 0∧ixAt 2 0=some 0∧ixAt 2 1=some 1∧ixAt 3 0=some 0∧ixAt 3 1=some 1∧ixAt 3 2=some 2∧ixAt 4 0=some 0∧ixAt 4 1=some 1∧ixAt 4 2=some 2∧ixAt 4 3=some 3∧ixAt 5 0=some 0∧ixAt 5 1=some 1∧ixAt 5 2=some 2∧ixAt 5 3=some 3∧ixAt 5 4=some 4:=⟨rfl,rfl,rfl,rfl,rfl,rfl,rfl,rfl,rfl,rfl,rfl,rfl,rfl,rfl,rfl⟩
end
end Pl
end
local macro_rules | `(tactic| simp! [$ls,*])=>`(tactic| simp (config:={ decide:=false }) only [Pl.rb_ok,Pl.rb_exn,Pl.ro_ok,Pl.ro_exn,Pl.rs_nx,Pl.rs_ret,Pl.rs_exn,Pl.rs_brk,Pl.rs_cont,Pl.kb_a,Pl.ko_a,Pl.kr_a,Pl.ks_a,Pl.kx_a,Pl.rb_rb,Pl.ro_rb,Pl.rs_ro,Pl.rs_rs,Pl.blk_rb,Pl.zrr,Pl.rx_ok,Pl.rxo_ok,Pl.rb_rx,Pl.ro_rx,Pl.rs_rxo,Pl.bnd_a,Pl.ofRes_a,Pl.seqS_a,Pl.rt_a,Pl.opt_some,Pl.varR_val,Pl.zph,Pl.zpi,Pl.slR_val,Pl.slR_own,Pl.slU_val,Pl.slU_own,Pl.ev_lit,Pl.ev_var,Pl.ev_mvar,Pl.ev_cvar,Pl.ev_prim,Pl.ev_tup,Pl.ev_lst,Pl.ev_callo,Pl.ev_callkn,Pl.ev_methn,Pl.methK_a,Pl.methR_a,Pl.ev_newn,Pl.newK_a,Pl.newR_a,Pl.callP_a,Pl.callkK_a,Pl.ev_callvn,Pl.callvK_fn,Pl.callvK_clo,Pl.ev_fldn,Pl.fldK_a,Pl.fldR_val,Pl.ev_fldmn,Pl.fldmK_a,Pl.fldmR_val,Pl.ev_boxn,Pl.boxK_l,Pl.boxK_d,Pl.ev_dictE,Pl.evs_nil,Pl.evs_cons,Pl.zdU,Pl.evo_e,Pl.evo_b,Pl.evo_bf,Pl.eva_nil,Pl.eva_e,Pl.eva_f,Pl.ldR_l,Pl.ldR_d,Pl.eva_p,Pl.ifR_t,Pl.ifR_f,Pl.ev_and,Pl.ev_or,Pl.ev_not,Pl.ev_ifx,Pl.ev_chain,Pl.zoH,Pl.ev_dget,Pl.zrn,Pl.ev_comphn,Pl.ev_comp2hn,Pl.zkY,Pl.walkG_a,Pl.snapM_a,Pl.snapK_a,Pl.snapR_some,Pl.walkK_a,Pl.snap_lst,Pl.snap_tup,Pl.evi_en,Pl.evieK_a,Pl.evi_zipn,Pl.zipK_a,Pl.evi_zipo,Pl.ziptK_l,Pl.ziptK_t,Pl.evi_enumn,Pl.enumK_l,Pl.evi_rangen,Pl.iter_lst,Pl.iter_tup,Pl.zm_ll,Pl.zm_lt,Pl.zm_tl,Pl.zm_tt,Pl.zm_lll,Pl.zm_ltl,Pl.evt_nil,Pl.evt_cons,Pl.ex_parn,Pl.setPR_some,Pl.sp_nil,Pl.sp_v,Pl.sp_f,Pl.ex_setO,Pl.ex_pass,Pl.ex_ite,Pl.ex_asg,Pl.ex_ret,Pl.ex_expr,Pl.ex_setIn,Pl.zpQ,Pl.ex_extend,Pl.ex_update,Pl.change_n,Pl.chgK_a,Pl.chdK_a,Pl.early_a,Pl.exs_nil,Pl.exs_cons,Pl.ex_forn,Pl.forK_a,Pl.ex_forh,Pl.forhK_a,Pl.ex_while,Pl.ex_retO,Pl.retOR_own,Pl.ex_setFn,Pl.setFK_a,Pl.ex_setFOn,Pl.setFOK_a,Pl.asgM_var,Pl.asgM_t,Pl.asRs_nil,Pl.asRs_cons,Pl.asS_var,Pl.asS_tup,Pl.asSs_nil,Pl.asSs_cons,Pl.RetS_ret,Pl.RetS_nx,Pl.turnQ_nx,Pl.turnQ_cont,Pl.turnQ_brk,Pl.turnQ_ret,Pl.ResQ_ok,Pl.NxQ_nx,Pl.NxQ_cont,and_self,and_true,true_and,Pl.cpS_a,Pl.whS_a,Pl.fin_b,Pl.ra_nil,Pl.ra_cons,Pl.rs_v,Pl.rs_sl,Pl.rs_fl,Pl.resR_val,Pl.resR_own,Pl.resF_own,Pl.de_none,Pl.de_bool,Pl.de_int,Pl.de_str,Pl.de_tup,Pl.de_lst,Pl.de_dct,Pl.de_clo,Pl.de_fn,Pl.po_add_i,Pl.po_add_t,Pl.po_add_l,Pl.po_sub,Pl.po_mul,Pl.po_mod,Pl.po_fdiv,Pl.po_pow,Pl.po_neg,Pl.po_eq,Pl.po_ne,Pl.po_lt,Pl.po_le,Pl.po_gt,Pl.po_ge,Pl.po_les,Pl.po_isin_t,Pl.po_isin_d,Pl.po_notin_t,Pl.po_notin_d,Pl.po_isNone,Pl.po_notNone,Pl.po_isinst,Pl.po_len_t,Pl.po_len_l,Pl.po_item_t,Pl.zki,Pl.po_item_d,Pl.po_slLo,Pl.po_slHi,Pl.po_slLH,Pl.po_slN,Pl.okCut_t,Pl.okCut_l,Pl.po_list_t,Pl.po_list_l,Pl.po_list_d,Pl.po_tuple_t,Pl.po_tuple_l,Pl.zqC,Pl.po_sum,Pl.po_min2,Pl.po_max2,Pl.po_all,Pl.po_any,Pl.po_toInt_i,Pl.po_toInt_b,Pl.po_toStr,Pl.po_rev,Pl.po_get,Pl.tr_bool,Pl.tr_int,Pl.tr_none,Pl.tr_lst,Pl.tr_tup,Pl.pl_none,Pl.pl_bool,Pl.pl_int,Pl.pl_str,Pl.pl_tup,Pl.pl_lst,Fx.zdS,Pl.inb,Fx.b2i,Pl.stO_sl,Pl.zqt,Pl.stO_v,Pl.isLD_l,Pl.isLD_d,Pl.isk_l,Pl.isk_n,Pl.callO_a,Pl.backR_ok,Pl.zpY,Fx.zex,Fx.zhd,Fx.zap,Fx.zbV,Fx.backTo,Pl.pa1,Pl.pa2,Pl.pa3,Pl.pa4,Pl.pa5,Pl.pa6,Pl.plA_u,Fx.plcO,Pl.znv,Pl.okS_val,Pl.okS_own,Pl.okS_un,Pl.zoX,Pl.zoY,Pl.pureS_un,Pl.freeSlot_a,Pl.freeS_un,Pl.freeS_val,Pl.wipe_nil,Pl.wipe_cons,Pl.rest_nil,Pl.rest_cons,Pl.getD_0,Pl.getD_s,List.contains_cons,List.contains_nil,List.all_cons,List.all_nil,List.any_cons,List.any_nil,Bool.and_true,Bool.true_and,Bool.or_false,Bool.false_or,Bool.and_self,Bool.or_self,Bool.or_true,Bool.true_or,Bool.and_false,Bool.false_and,Bool.not_true,Bool.not_false,beq_self_eq_true,Option.map_some,Option.bind_some,List.getElem?_cons_zero,List.getElem?_cons_succ,List.set_cons_zero,List.set_cons_succ,if_pos,if_true,ite_true,if_false,ite_false,Bool.false_eq_true,reduceIte,Nat.reduceAdd,Nat.reduceLeDiff,Nat.reduceLT,Int.reduceLT,Int.reduceLE,Int.reduceAdd,Int.reduceToNat,Int.reduceNeg,Nat.reduceSub,Fx.zcj,Fx.zlP,List.length_cons,List.length_nil,Fx.line,decide_true,decide_false,ne_eq,not_true_eq_false,not_false_eq_true,Pl.zoR,Pl.zmD,Pl.zmE,Pl.zmB,Pl.zoS,Pl.zmC,Pl.zmL,Pl.zka,Pl.zkb,Pl.zk8,Pl.zmM,Pl.zk9,Pl.zmN,Pl.zke,Pl.zkf,Pl.zkc,Pl.zmO,Pl.zkd,Pl.zmz,Pl.zk0,Pl.zk1,Pl.zjY,Pl.zmA,Pl.zjZ,Pl.zoT,Pl.zmH,Pl.zmI,Pl.zmF,Pl.zoU,Pl.zmG,Pl.zmJ,Pl.zk4,Pl.zk5,Pl.zk2,Pl.zmK,Pl.zk3,Pl.zgO,Pl.zg6,Pl.zg7,Pl.zg4,Pl.zgP,Pl.zg5,Pl.zk6,Pl.ziK,Pl.ziL,Pl.ziI,Pl.zk7,Pl.ziJ,Pl.pd_say,Pl.pd_fail,Pl.pd_back,Pl.pd_skip,Pl.pd_put,Pl.pd_look,Pl.zmQ,Pl.pd_flush,List.nil_append,List.cons_append,List.append_nil,Pl.reC_p,Pl.ixs,Pl.qmore,Pl.zq0,Pl.zpO,List.map_nil,List.replicate_succ,List.replicate_zero,List.take_succ_cons,List.take_zero,List.drop_succ_cons,List.drop_zero,Pl.znG,Pl.zr3,Pl.zqT,Pl.zhY,Pl.zkK,Pl.zm3,Pl.zr6,Pl.zeA,Pl.zha,Pl.zi6,Pl.zm7,Pl.zi5,Pl.zqX,Pl.zhc,Pl.zf4,Pl.ze3,Pl.zi9,Pl.zi7,Pl.zjj,Pl.zkP,Pl.zgm,Pl.zi8,Pl.zkO,Pl.zjk,Pl.zh3,Pl.zi4,Pl.znL,Pl.zh5,Pl.zjg,Pl.zm8,Pl.zkN,Pl.zqS,Pl.zqQ,Pl.lent_l_ask,Pl.zqV,Pl.znE,Pl.lent_l_run,Pl.zqW,Pl.zpm,Pl.zqY,Pl.zqU,Pl.zez,Pl.zh7,Pl.zgl,Pl.zkI,Pl.zfg,Pl.zh4,Pl.zfX,Pl.zff,Pl.zi0,Pl.zh8,Pl.zr0,Pl.zpl,Pl.zpn,Pl.znD,Pl.zr2,Pl.zkE,Pl.zr1,Pl.znJ,Pl.zgj,Pl.zf0,Pl.zh6,Pl.zji,Pl.zjh,Pl.zpq,Pl.zqZ,Pl.zpo,Pl.zhb,Pl.zjl,Pl.zfY,Pl.zeB,Pl.zgo,Pl.zkL,Pl.zhX,Pl.zkJ,Pl.zpt,Pl.zm4,Pl.zh9,Pl.zgn,Pl.zkM,Pl.zm2,Pl.zm5,Pl.zje,Pl.zkH,Pl.zpr,Pl.zr4,Pl.zps,Pl.zjd,Pl.zh2,Pl.zjf,Pl.znK,Pl.znI,Pl.zgk,Pl.zm6,Pl.zhZ,Pl.zfW,Pl.zgi,Pl.lent_l_key,Pl.zm0,Pl.zkF,Pl.znF,Pl.zr5,Pl.zpp,Pl.zlZ,Pl.zqR,Pl.zgh,Pl.znH,Pl.zfV,Pl.zlY,Pl.zkG,Pl.zm1,Pl.zqG,Pl.pl_l_draw,Pl.pl_l_same,Pl.zkk,Pl.znk,Pl.zp8,Pl.pl_f_idle,Pl.zf8,Pl.zj5,Pl.zkp,Pl.zpc,Pl.zko,Pl.pl_l_pick,Pl.zj7,Pl.zfS,Pl.zeY,Pl.zks,Pl.zkq,Pl.zlM,Pl.znp,Pl.zhO,Pl.zkr,Pl.zno,Pl.zlN,Pl.ziY,Pl.zkn,Pl.zqL,Pl.zj0,Pl.zlJ,Pl.zpd,Pl.znn,Pl.pl_l_told,Pl.pl_l_wish,Pl.pl_l_ask,Pl.pl_l_play,Pl.zqE,Pl.pl_l_run,Pl.pl_l_plan,Pl.pl_l_value,Pl.pl_l_part,Pl.pl_l_rows,Pl.zf7,Pl.zj2,Pl.zhN,Pl.zni,Pl.zge,Pl.ziZ,Pl.zgU,Pl.zgd,Pl.zkm,Pl.zj3,Pl.pl_l_late,Pl.pl_l_words,Pl.pl_l_pages,Pl.zqD,Pl.pl_l_fits,Pl.zne,Pl.pl_l_kept,Pl.zqJ,Pl.zhL,Pl.zfR,Pl.zj1,Pl.zlL,Pl.zlK,Pl.pl_l_among,Pl.pl_l_left,Pl.pl_l_falls,Pl.zj6,Pl.zlO,Pl.zgV,Pl.zf9,Pl.zhQ,Pl.znl,Pl.zkj,Pl.znj,Pl.pl_f_disks,Pl.zp9,Pl.zj4,Pl.zhP,Pl.znm,Pl.zp7,Pl.zpa,Pl.zlH,Pl.znh,Pl.pl_f_first,Pl.pl_f_some,Pl.pl_f_every,Pl.zlG,Pl.ziX,Pl.zlI,Pl.zqK,Pl.zqI,Pl.zhM,Pl.zpb,Pl.zkl,Pl.zgT,Pl.zhK,Pl.pl_l_key,Pl.zp5,Pl.znf,Pl.zqF,Pl.pl_f_left,Pl.pl_l_drawn,Pl.zp4,Pl.pl_l_walk,Pl.zhJ,Pl.zqH,Pl.zgS,Pl.zp3,Pl.zng,Pl.zp6,Pl.zfd,Pl.zkz,Pl.zky,Pl.zfU,Pl.zeZ,Pl.zkC,Pl.zkA,Pl.zlV,Pl.znC,Pl.zhU,Pl.zkB,Pl.znB,Pl.zlW,Pl.zlS,Pl.zpk,Pl.znA,Pl.zfc,Pl.zja,Pl.zhT,Pl.zgg,Pl.zj8,Pl.zgZ,Pl.zgf,Pl.zkx,Pl.zjb,Pl.zfT,Pl.zj9,Pl.zlU,Pl.zlT,Pl.zlX,Pl.zh0,Pl.zfe,Pl.zjc,Pl.zhV,Pl.zii,Pl.zik,Pl.zjo,Pl.zij,Pl.zhj,$ls,*])
local macro_rules | `(tactic| simp!)=>`(tactic| simp! [])

section
namespace Pl
open Fx K
end Pl
end
section
set_option maxHeartbeats 4000000
namespace Pl
open Fx K
theorem junk.ok {s : Slot} (j : junk s) : okS (some s)=true:=by rcases j with rfl | ⟨v,rfl⟩ <;> rfl
theorem junk.pu {s : Slot} (j : junk s) : zcf s=true:=by rcases j with rfl | ⟨v,rfl⟩ <;> rfl
theorem junk.fr {s : Slot} (j : junk s) : freeS (some s)=true:=by rcases j with rfl | ⟨v,rfl⟩ <;> rfl
end Pl
end
section
set_option maxHeartbeats 4000000
namespace Pl
open Fx K
abbrev Sr:=PySem.Str
abbrev Dk:=List (Sr × Val)
def Dk.dv (D : Dk) : List (Val × Val):=D.map fun p=>(.str p.1,p.2)
def prV (p : Sr × Val) : Val:=.tup false [.str p.1,p.2]
abbrev Ep:=List (Sr × Val)
abbrev Eps:=List Ep
def epV (e : Ep) : List Val:=e.map prV
def Dk.ks (D : Dk) : List Sr:=D.map (·.1)
def Dk.look (D : Dk) (s : Sr) : Option Val:=(D.find? fun p=>decide (p.1=s)).map (·.2)
def Dk.put (D : Dk) (s : Sr) (v : Val) : Dk:=if D.any fun p=>decide (p.1=s) then D.map fun p=>if p.1=s then (p.1,v) else p else D ++ [(s,v)]
def Dk.puts (D : Dk) (e : Ep) : Dk:=e.foldl (fun D p=>D.put p.1 p.2) D
theorem dv_get {D : Dk} {s : Sr} : dget D.dv (.str s)=D.look s:=by
 unfold Dk.dv Dk.look dget
 rw [List.find?_map,Option.map_map]
 rfl
theorem dv_put {D : Dk} {s : Sr} {v : Val} : dput D.dv (.str s) v=(D.put s v).dv:=by
 unfold Dk.dv Dk.put dput
 rw [List.any_map]
 show (if (D.any fun p=>decide (p.1=s))=true then _ else _) = _
 split
 ·rw [List.map_map,List.map_map]
  apply List.map_congr_left
  intro p _
  show (if decide (p.1=s)=true then _ else _) = _
  by_cases e : p.1=s
  ·simp [e]
  ·simp [e]
 ·rw [List.map_append]; rfl
theorem put_ks {D : Dk} {s : Sr} {v : Val} (h : s∈D.ks) : (D.put s v)=D.map fun p=>if p.1=s then (p.1,v) else p:=by
 unfold Dk.put
 rw [if_pos]
 obtain ⟨p,m,e⟩:=List.mem_map.mp h
 exact List.any_eq_true.mpr ⟨p,m,by simp [e]⟩
theorem zqz {D : Dk} {s : Sr} {v : Val} (h : s∈D.ks) : (D.put s v).ks=D.ks:=by
 rw [put_ks h]
 unfold Dk.ks
 rw [List.map_map]
 apply List.map_congr_left
 intro p _
 show (if p.1=s then (p.1,v) else p).1=p.1
 split <;> rfl
theorem puts_ks : ∀ {e : Ep} {D : Dk},(∀ p∈e,p.1∈D.ks)→(D.puts e).ks=D.ks
 | [],_,_=>rfl
 | p :: e,D,h=>by
  have k:=zqz (v:=p.2) (h p (List.mem_cons_self ..))
  show (Dk.puts (D.put p.1 p.2) e).ks = _
  rw [puts_ks (e:=e) fun q m=>by rw [k]; exact h q (List.mem_cons_of_mem _ m),k]
def updF (e : Ep) (s : Sr) (d : Val) : Val:=e.foldl (fun d q=>if q.1=s then q.2 else d) d
theorem puts_map : ∀ {e : Ep} {D : Dk},(∀ p∈e,p.1∈D.ks)→D.puts e=D.map fun p=>(p.1,updF e p.1 p.2)
 | [],D,_=>by
  show D=D.map fun p=>(p.1,p.2)
  simp
 | p :: e,D,h=>by
  have k:=zqz (v:=p.2) (h p (List.mem_cons_self ..))
  show Dk.puts (D.put p.1 p.2) e = _
  rw [puts_map (e:=e) fun q m=>by rw [k]; exact h q (List.mem_cons_of_mem _ m),put_ks (h p (List.mem_cons_self ..)),List.map_map]
  apply List.map_congr_left
  intro q _
  show ((if q.1=p.1 then (q.1,p.2) else q).1,updF e (if q.1=p.1 then (q.1,p.2) else q).1 (if q.1=p.1 then (q.1,p.2) else q).2)=(q.1,updF e q.1 (if p.1=q.1 then p.2 else q.2))
  by_cases z : q.1=p.1
  ·rw [if_pos z,if_pos z.symm]
  ·rw [if_neg z,if_neg (fun y=>z y.symm)]
theorem look_in {D : Dk} {s : Sr} (h : s∈D.ks) : ∃ v,D.look s=some v∧(s,v)∈D:=by
 unfold Dk.look
 cases q : D.find? fun p=>decide (p.1=s) with
 | none =>
  obtain ⟨p,m,e⟩:=List.mem_map.mp h
  have:=List.find?_eq_none.mp q p m
  simp [e] at this
 | some p =>
  have e0 : (fun p : Sr × Val=>decide (p.1=s)) p=true:=by exact List.find?_some (p:=fun p : Sr × Val=>decide (p.1=s)) q
  have e:=of_decide_eq_true e0
  refine ⟨p.2,rfl,?_⟩
  have:=List.mem_of_find?_eq_some q
  rw [← e]; exact this
end Pl
end
section
set_option maxHeartbeats 4000000
namespace Pl
open Fx K
structure Ext (h h' : MH) : Prop where
 len : h.objs.length≤h'.objs.length
 old : ∀ a,a < h.objs.length→h'.objs[a]? = h.objs[a]?
 cel : h'.cells=h.cells
theorem Ext.refl {h : MH} : Ext h h:=⟨Nat.le_refl _,fun _ _=>rfl,rfl⟩
theorem Ext.trans {h h1 h2 : MH} (a : Ext h h1) (b : Ext h1 h2) : Ext h h2:=⟨Nat.le_trans a.len b.len,fun i z=>(b.old i (Nat.lt_of_lt_of_le z a.len)).trans (a.old i z),b.cel.trans a.cel⟩
theorem zkg {h : MH} {o : Ob} : (psh h o).objs.length=h.objs.length + 1:=by simp [psh]
theorem zqA {h : MH} {o : Ob} : (psh h o).objs[h.objs.length]? = some o:=by simp [psh]
theorem zhG {h : MH} {o : Ob} {a : Nat} (z : a < h.objs.length) : (psh h o).objs[a]? = h.objs[a]?:=by
 show (h.objs ++ [o])[a]? = _
 rw [List.getElem?_append_left z]
theorem Ext.psh {h : MH} {o : Ob} : Ext h (psh h o):=⟨by rw [zkg]; omega,fun a z=>zhG z,rfl⟩
theorem zmW {h : MH} {o : Ob} {a : Nat} : (hs h a o).objs.length=h.objs.length:=by simp [hs]
theorem hs_new {h : MH} {o : Ob} {a : Nat} (z : a < h.objs.length) : (hs h a o).objs[a]? = some o:=by
 show (h.objs.set a o)[a]? = _
 rw [List.getElem?_set_self z]
theorem zkZ {h : MH} {o : Ob} {a b : Nat} (z : a≠b) : (hs h a o).objs[b]? = h.objs[b]?:=by
 show (h.objs.set a o)[b]? = _
 rw [List.getElem?_set_ne z]
theorem Ext.hs {h h1 : MH} {o : Ob} {a : Nat} (x : Ext h h1) (z : h.objs.length≤a) : Ext h (hs h1 a o):=⟨by rw [zmW]; exact x.len,fun b y=>by rw [zkZ (by omega)]; exact x.old b y,x.cel⟩
theorem Ext.push {h h1 : MH} {o : Ob} (x : Ext h h1) : Ext h (Pl.psh h1 o):=x.trans Ext.psh
theorem lt_at {h : MH} {a : Nat} {o : Ob} (e : h.objs[a]? = some o) : a < h.objs.length:=(List.getElem?_eq_some_iff.mp e).1
theorem Ext.at {h h1 : MH} {a : Nat} {o : Ob} (x : Ext h h1) (e : h.objs[a]? = some o) : h1.objs[a]? = some o:=by rw [x.old a (lt_at e)]; exact e
inductive W where
 | look (s : Sr) | put (s : Sr) (v : Val) | bar | flu
def W.v : W→Val
 | .look s=>.tup false [.str "look",.str s]
 | .put s v=>.tup false [.str "put",.str s,v]
 | .bar=>.tup false [.str "barrier"]
 | .flu=>.tup false [.str "flush"]
abbrev St:=W × Val
def stV (x : St) : Val:=.tup false [x.1.v,x.2]
structure RunV where
 ns : List Sr
 torn : List Sr
 D : Dk
 sts : List St
 ws : List (Nat × Val)
 fin : Val
 sp : List Int
 pi : List Int
def wdV (p : Nat × Val) : Val:=.tup false [.int p.1,p.2]
abbrev RunV.fs (r : RunV) : List (Nat × Slot):=[(zbj,.val (.lst (r.ns.map .str))),(zay,.val (.lst (r.torn.map .str))),(zdL,.val (.dct r.D.dv)),(zga,.val (.lst (r.sts.map stV))),(zd2,.val (.lst (r.ws.map wdV))),(zbc,.val r.fin),(zan,.val (.lst (r.sp.map .int))),(zcN,.val (.lst (r.pi.map .int)))]
abbrev RunV.ob (r : RunV) : Ob:=.inst 2 r.fs
theorem RunV.f {h : MH} {a : Nat} {r : RunV} (e : h.objs[a]? = some r.ob) : fieldOf h a zbj=some (.val (.lst (r.ns.map .str)))∧fieldOf h a zay=some (.val (.lst (r.torn.map .str)))∧fieldOf h a zdL=some (.val (.dct r.D.dv))∧fieldOf h a zga=some (.val (.lst (r.sts.map stV)))∧fieldOf h a zd2=some (.val (.lst (r.ws.map wdV)))∧fieldOf h a zbc=some (.val r.fin)∧fieldOf h a zan=some (.val (.lst (r.sp.map .int)))∧fieldOf h a zcN=some (.val (.lst (r.pi.map .int)))∧zbN h (.ref a) = .ref a :=
 ⟨zfk e _,zfk e _,zfk e _,zfk e _,zfk e _,zfk e _,zfk e _,zfk e _,de_at e⟩
theorem RunV.m {T : Tbl} {h : MH} {a : Nat} {r : RunV} (e : h.objs[a]? = some r.ob) {m : Nat} : ziO T h (.ref a) m=T.meths 2 m:=mo_at e
def znb (ks : List Sr) : W→Prop
 | .put s v=>s∈ks∧vOk v
 | _=>True
structure RunV.ok (r : RunV) : Prop where
 ks : r.D.ks=r.ns
 nd : r.ns.Nodup
 nl : r.ns.length≤10
 so : ∀ s∈r.ns,PySem.PyData.strOk s=true
 to : ∀ s∈r.torn,PySem.PyData.strOk s=true
 vals : ∀ p∈r.D,vOk p.2
 sl : r.sts.length≤100
 puts : ∀ x∈r.sts,znb r.ns x.1∧vOk x.2
 ends : pvOk r.fin=true
 wl : r.ws.length≤100
 wv : ∀ p∈r.ws,vOk p.2
structure LS where
 D : Dk
 pre : Eps
 lst : Ep
def LS.eps (s : LS) : Eps:=s.pre ++ [s.lst]
def isFlu : W→Bool
 | .flu=>true
 | _=>false
def LS.app (s : LS) : W→LS
 | .put a v=>{ s with lst:=s.lst ++ [(a,v)] }
 | _=>s
def LS.cut (s : LS) (is : Bool) : W→LS
 | .bar=>if is then s else ⟨s.D,s.pre ++ [s.lst],[]⟩
 | _=>s
def LS.flush (s : LS) : LS:=⟨s.D.puts s.eps.flatten,[],[]⟩
def lateS (sp pi : List Int) (s : LS) (x : St × Nat) : LS :=
 let s2:=(s.app x.1.1).cut (decide ((x.2 : Int)∈sp)) x.1.1
 if isFlu x.1.1 && !decide ((x.2 : Int)∈sp) || decide ((x.2 : Int)∈pi) then s2.flush else s2
def zm9 (sp pi : List Int) (D : Dk) (sts : List St) : LS:=(sts.zipIdx 0).foldl (lateS sp pi) ⟨D,[],[]⟩
structure zfr (h : MH) (ad ae : Nat) (ps : List (Nat × Ep)) (D : Dk) : Prop where
 d : h.objs[ad]? = some (.hd D.dv)
 e : h.objs[ae]? = some (.hl (ps.map fun p=>.ref p.1))
 es : ∀ p∈ps,h.objs[p.1]? = some (.hl (epV p.2))
 nd : (ad :: ae :: ps.map (·.1)).Nodup
end Pl
end
section
set_option maxHeartbeats 4000000
namespace Pl
open Fx K
section
variable {T : Tbl} {n : Nat} {h : MH}
structure LS.ok (nm : List Sr) (k : Nat) (s : LS) : Prop where
 ks : s.D.ks=nm
 vals : ∀ p∈s.D,vOk p.2
 puts : ∀ p∈s.eps.flatten,p.1∈nm∧vOk p.2
 pl : s.eps.flatten.length≤k
 el : s.pre.length≤k
theorem upd_mem : ∀ {e : Ep} {s : Sr} {d : Val},updF e s d=d∨∃ p∈e,p.2=updF e s d
 | [],_,_=>.inl rfl
 | p :: e,s,d=>by
  show updF e s (if p.1=s then p.2 else d)=d∨∃ q∈p :: e,q.2=updF e s (if p.1=s then p.2 else d)
  rcases upd_mem (e:=e) (s:=s) (d:=if p.1=s then p.2 else d) with h | ⟨q,m,h⟩
  ·rw [h]
   by_cases z : p.1=s
   ·rw [if_pos z]; exact .inr ⟨p,List.mem_cons_self ..,rfl⟩
   ·rw [if_neg z]; exact .inl rfl
  ·exact .inr ⟨q,List.mem_cons_of_mem _ m,h⟩
theorem puts_vals {D : Dk} {e : Ep} {P : Val→Prop} (hk : ∀ p∈e,p.1∈D.ks) (hd : ∀ p∈D,P p.2) (he : ∀ p∈e,P p.2) : ∀ p∈D.puts e,P p.2:=by
 rw [puts_map hk]
 intro p m
 obtain ⟨q,mq,rfl⟩:=List.mem_map.mp m
 rcases upd_mem (e:=e) (s:=q.1) (d:=q.2) with h | ⟨w,mw,h⟩
 ·show P (updF e q.1 q.2)
  rw [h]; exact hd q mq
 ·show P (updF e q.1 q.2)
  rw [← h]; exact he w mw
theorem LS.ok.app_ok {ks : List Sr} {k : Nat} {s : LS} (o : s.ok ks k) {w : W} (hw : znb ks w) : (s.app w).ok ks (k + 1):=by
 cases w with
 | put a v =>
  have e : (s.app (.put a v)).eps.flatten=s.eps.flatten ++ [(a,v)]:=by
   simp [LS.app,LS.eps]
  refine ⟨o.ks,o.vals,?_,?_,Nat.le_succ_of_le o.el⟩
  ·intro p m
   rw [e] at m
   rcases List.mem_append.mp m with m | m
   ·exact o.puts p m
   ·simp at m; subst m; exact hw
  ·rw [e,List.length_append]; have:=o.pl; simp only [List.length_cons,List.length_nil]; omega
 | _=>exact ⟨o.ks,o.vals,o.puts,Nat.le_succ_of_le o.pl,Nat.le_succ_of_le o.el⟩
theorem LS.cut_ok {ks : List Sr} {k : Nat} {s : LS} (h1 : s.D.ks=ks) (h2 : ∀ p∈s.D,vOk p.2) (h3 : ∀ p∈s.eps.flatten,p.1∈ks∧vOk p.2) (h4 : s.eps.flatten.length≤k) (h5 : s.pre.length + 1≤k) {w : W} {b : Bool} : (s.cut b w).ok ks k:=by
 cases w with
 | bar =>
  cases b with
  | true=>exact ⟨h1,h2,h3,h4,by show s.pre.length≤k; omega⟩
  | false =>
   have e : (s.cut false .bar).eps.flatten=s.eps.flatten:=by simp [LS.cut,LS.eps]
   refine ⟨h1,h2,by rw [e]; exact h3,by rw [e]; exact h4,?_⟩
   show (s.pre ++ [s.lst]).length≤k
   simpa using h5
 | _=>exact ⟨h1,h2,h3,h4,by show s.pre.length≤k; omega⟩
theorem LS.flush_ok {ks : List Sr} {k : Nat} {s : LS} (o : s.ok ks k) : s.flush.ok ks k:=by
 have hk : ∀ p∈s.eps.flatten,p.1∈s.D.ks:=fun p m=>by rw [o.ks]; exact (o.puts p m).1
 refine ⟨(puts_ks hk).trans o.ks,puts_vals hk o.vals fun p m=>(o.puts p m).2,?_,?_,?_⟩
 ·intro p m; simp [LS.flush,LS.eps] at m
 ·simp [LS.flush,LS.eps]
 ·simp [LS.flush]
theorem lateS_ok {ks : List Sr} {k : Nat} {sp pi : List Int} {s : LS} (o : s.ok ks k) {x : St × Nat} (hw : znb ks x.1.1) : (lateS sp pi s x).ok ks (k + 1):=by
 have a:=o.app_ok hw
 have a5 : (s.app x.1.1).pre.length + 1≤k + 1:=by
  have : (s.app x.1.1).pre=s.pre:=by cases x.1.1 <;> rfl
  rw [this]; have:=o.el; omega
 have c:=LS.cut_ok a.ks a.vals a.puts a.pl a5 (w:=x.1.1) (b:=decide ((x.2 : Int)∈sp))
 unfold lateS
 dsimp only
 split
 ·exact LS.flush_ok c
 ·exact c
theorem late_ok {ks : List Sr} {sp pi : List Int} : ∀ (l : List (St × Nat)) (k : Nat) (s : LS),s.ok ks k→(∀ x∈l,znb ks x.1.1)→(l.foldl (lateS sp pi) s).ok ks (k + l.length)
 | [],_,_,o,_=>o
 | x :: l,k,s,o,h=>by
  have:=late_ok (sp:=sp) (pi:=pi) l (k + 1) (lateS sp pi s x) (lateS_ok o (h x (List.mem_cons_self ..))) fun y m=>h y (List.mem_cons_of_mem _ m)
  rw [List.length_cons,show k + (l.length + 1)=k + 1 + l.length by omega]
  exact this
end
end Pl
end
section
set_option maxHeartbeats 4000000
namespace Pl
open Fx K
theorem zfr.app {h : MH} {ad ae al : Nat} {ps : List (Nat × Ep)} {e : Ep} {D : Dk} {x : Sr × Val} (L : zfr h ad ae (ps ++ [(al,e)]) D) : zfr (hs h al (.hl (epV (e ++ [x])))) ad ae (ps ++ [(al,e ++ [x])]) D:=by
 have lt:=lt_at (L.es (al,e) (by simp))
 have nd:=L.nd
 have eq1 : (ps ++ [(al,e ++ [x])]).map (·.1)=(ps ++ [(al,e)]).map (·.1):=by simp
 have na : al≠ad∧al≠ae∧∀ p∈ps,al≠p.1:=by
  rw [List.map_append,← List.cons_append,← List.cons_append] at nd
  have z:=(List.nodup_append.mp nd).2.2
  refine ⟨fun y=>?_,fun y=>?_,fun p m y=>?_⟩
  ·exact z ad (by simp) al (by simp) y.symm
  ·exact z ae (by simp) al (by simp) y.symm
  ·exact z p.1 (by simp; exact .inr (.inr ⟨_,m⟩)) al (by simp) y.symm
 refine ⟨?_,?_,?_,?_⟩
 ·rw [zkZ na.1]; exact L.d
 ·rw [zkZ na.2.1,L.e]; simp
 ·intro p m
  rcases List.mem_append.mp m with m | m
  ·rw [zkZ (na.2.2 p m)]; exact L.es p (List.mem_append_left _ m)
  ·simp at m; subst m; exact hs_new lt
 ·rw [eq1]; exact nd
theorem zfr.lt {h : MH} {ad ae : Nat} {ps : List (Nat × Ep)} {D : Dk} (L : zfr h ad ae ps D) : ad < h.objs.length∧ae < h.objs.length∧∀ p∈ps,p.1 < h.objs.length:=⟨lt_at L.d,lt_at L.e,fun p m=>lt_at (L.es p m)⟩
theorem zfr.more {h : MH} {ad ae : Nat} {ps : List (Nat × Ep)} {D : Dk} (L : zfr h ad ae ps D) : zfr (hs (psh h (.hl [])) ae (.hl ((ps.map fun p=>.ref p.1) ++ [.ref h.objs.length]))) ad ae (ps ++ [(h.objs.length,[])]) D:=by
 obtain ⟨l1,l2,l3⟩:=L.lt
 have nd:=List.nodup_cons.mp L.nd
 have nd2:=List.nodup_cons.mp nd.2
 have na : ae≠ad:=fun y=>nd.1 (by rw [y]; simp)
 have np : ∀ p∈ps,ae≠p.1:=fun p m y=>nd2.1 (by rw [y]; exact List.mem_map.mpr ⟨p,m,rfl⟩)
 refine ⟨?_,?_,?_,?_⟩
 ·rw [zkZ na,zhG l1]; exact L.d
 ·rw [hs_new (by rw [zkg]; omega)]; simp
 ·intro p m
  rcases List.mem_append.mp m with m | m
  ·rw [zkZ (np p m),zhG (l3 p m)]; exact L.es p m
  ·simp at m; subst m
   show (hs _ ae _).objs[h.objs.length]? = _
   rw [zkZ (by omega),zqA]; rfl
 ·rw [List.map_append,← List.cons_append,← List.cons_append]
  refine List.nodup_append.mpr ⟨L.nd,by simp,?_⟩
  intro a ha b hb
  simp at hb; subst hb
  have : a < h.objs.length:=by
   rcases List.mem_cons.mp ha with rfl | ha
   ·exact l1
   ·rcases List.mem_cons.mp ha with rfl | ha
    ·exact l2
    ·obtain ⟨p,m,rfl⟩:=List.mem_map.mp ha
     exact l3 p m
  omega
theorem zfr.fresh {h : MH} {ad ae : Nat} {ps : List (Nat × Ep)} {D D2 : Dk} (L : zfr h ad ae ps D) : zfr (psh (psh (hs h ad (.hd D2.dv)) (.hl [])) (.hl [.ref h.objs.length])) ad (h.objs.length + 1) [(h.objs.length,[])] D2:=by
 obtain ⟨l1,l2,l3⟩:=L.lt
 refine ⟨?_,?_,?_,?_⟩
 ·rw [zhG (by rw [zkg,zmW]; omega),zhG (by rw [zmW]; omega),hs_new l1]
 ·have e : h.objs.length + 1=(psh (hs h ad (.hd D2.dv)) (.hl [])).objs.length:=by rw [zkg,zmW]
  rw [e,zqA]; rfl
 ·intro p m
  simp at m; subst m
  show (psh _ _).objs[h.objs.length]? = _
  rw [zhG (by rw [zkg,zmW]; omega)]
  have e : h.objs.length=(hs h ad (.hd D2.dv)).objs.length:=by rw [zmW]
  conv=>lhs; rw [e]
  rw [zqA]; rfl
 ·simp; omega
end Pl
end
section
set_option maxHeartbeats 4000000
namespace Pl
open Fx K
end Pl
end
section
set_option maxHeartbeats 4000000
namespace Pl
open Fx K
end Pl
end
section
set_option maxHeartbeats 4000000
namespace Pl
open Fx K
def zcy (D : Dk) (eps : Eps) (s : Sr) : List Val:=(D.look s).getD .none :: (eps.flatten.filter fun p=>decide (p.1=s)).map (·.2)
def sOk (s : Sr) : Prop:=PySem.PyData.strOk s=true
section
variable {T : Tbl} {n : Nat} {h : MH}
structure LateOk (nm : List Sr) (D : Dk) (eps : Eps) : Prop where
 ks : ∀ s∈nm,s∈D.ks
 so : ∀ s∈nm,sOk s
 nd : nm.Nodup
 vals : ∀ p∈D,vOk p.2
 puts : ∀ p∈eps.flatten,p.1∈nm∧vOk p.2
 pl : eps.flatten.length≤100
theorem look_vOk {D : Dk} {s : Sr} {P : Val→Prop} (hs : s∈D.ks) (hv : ∀ p∈D,P p.2) : P ((D.look s).getD .none):=by
 obtain ⟨v,e,m⟩:=look_in hs
 rw [e]; exact hv _ m
end
end Pl
end
section
set_option maxHeartbeats 4000000
namespace Pl
open Fx K
abbrev Pr:=Nat × Nat
def pairV (p : Pr) : Val:=.tup false [.int p.1,.int p.2]
def rowW (r : List Pr) : Val:=.tup false (r.map pairV)
def zoJ (vals : List Val) (n : Nat) : Nat:=match vals[n]?,vals[n + 1]? with
 | some (.tup _ a),some (.tup _ b)=>if a.length=b.length then b.length else 0
 | _,_=>0
def zkt (t : Bool) (vals : List Val) (n : Nat) : List Pr:=(n,0) :: (if t then (List.range' 1 (zoJ vals n - 1)).map fun j=>(n,j) else [])
def zdk (t : Bool) (vals : List Val) (lo hi : Nat) : List Pr:=(hi,0) :: (List.range' lo (hi - lo)).flatMap (zkt t vals)
def zns (t : Bool) (vals : List Val) : List Pr:=(List.range vals.length).flatMap (zkt t vals)
theorem range_L {lo hi : Nat} : zg3 lo hi=(List.range' lo (hi - lo)).map fun (k : Nat)=>Val.int k:=by
 unfold zg3
 have e : ((hi : Int) - (lo : Int)).toNat=hi - lo:=by omega
 rw [e,List.range'_eq_map_range,List.map_map]
 apply List.map_congr_left
 intro k _
 show Val.int ((lo : Int) + (k : Int))=Val.int ((lo + k : Nat) : Int)
 congr 1
theorem range_0 {k : Nat} : zg3 0 (k : Int)=(List.range k).map fun (j : Nat)=>Val.int j:=by
 have:=range_L (lo:=0) (hi:=k)
 rw [List.range_eq_range']
 exact this
theorem fits_nat {k : Nat} (h : k≤1000000) : fits (k : Int)=true:=by
 rw [fits_eq]
 refine decide_eq_true ?_
 have h2 : (2 : Int) ^ 62 = 4611686018427387904:=by decide
 rw [h2]; omega
theorem zl8 {α β : Type} {c : Nat} {f : α→List β} : ∀ {l : List α},(∀ a∈l,(f a).length≤c)→(l.flatMap f).length≤l.length * c
 | [],_=>by simp
 | a :: l,h=>by
  rw [List.flatMap_cons,List.length_append,List.length_cons,Nat.succ_mul]
  have h1:=h a (List.mem_cons_self ..)
  have h2:=zl8 (f:=f) (l:=l) (c:=c) fun b m=>h b (List.mem_cons_of_mem _ m)
  omega
theorem zoI {vals : List Val} {k c : Nat} (h : ∀ b l,Val.tup b l∈vals→l.length≤c) : zoJ vals k≤c:=by
 unfold zoJ
 split
 ·rename_i b1 a b2 b e1 e2
  split
  ·exact h b2 b (List.mem_of_getElem? e2)
  ·omega
 ·omega
section
variable {T : Tbl} {n : Nat} {h : MH}
structure ValsOk (vals : List Val) : Prop where
 len : vals.length≤1000
 pl : ∀ v∈vals,isPlain v=true∧∀ h,zbN h v=v
 tl : ∀ b l,Val.tup b l∈vals→l.length≤1000
end
end Pl
end
section
set_option maxHeartbeats 4000000
namespace Pl
open Fx K
def zoZ {α : Type} (rows : List (List α)) : List (List α):=rows.foldl (fun found row=>found.flatMap fun ahead=>row.map fun x=>ahead ++ [x]) [[]]
theorem prodT_snoc {α : Type} {rows : List (List α)} {row : List α} : zoZ (rows ++ [row])=(zoZ rows).flatMap fun ahead=>row.map fun x=>ahead ++ [x]:=by
 unfold zoZ; rw [List.foldl_append]; rfl
theorem snoc_ind {α : Type} {P : List α→Prop} (h0 : P []) (h1 : ∀ l a,P l→P (l ++ [a])) (l : List α) : P l:=by
 have : ∀ r : List α,P r.reverse:=by
  intro r
  induction r with
  | nil=>exact h0
  | cons a r ih=>rw [List.reverse_cons]; exact h1 _ _ ih
 have z:=this l.reverse
 rwa [List.reverse_reverse] at z
end Pl
end
section
set_option maxHeartbeats 4000000
namespace Pl
open Fx K
def cntF (e : Ep) (s : Sr) : Nat:=(e.filter fun p=>decide (p.1=s)).length
def moreF (ns : List Sr) (e : Ep) : List Nat:=ns.map (cntF e)
def jk (s : Slot) : Prop:=okS (some s)=true∧zcf s=true
theorem junk.k {s : Slot} (j : junk s) : jk s:=⟨j.ok,j.pu⟩
end Pl
end
section
set_option maxHeartbeats 4000000
namespace Pl
open Fx K
def insR (l : List (List Pr)) (r : List Pr) : List (List Pr):=if r∈l then l else l ++ [r]
def insAll (l rs : List (List Pr)) : List (List Pr):=rs.foldl insR l
def kd (l : List (List Pr)) : List (Val × Val):=l.map fun r=>(rowW r,.bool true)
def rk (r : List Pr) : List (List Int):=r.map fun p=>[(p.1 : Int),(p.2 : Int)]
end Pl
end
section
set_option maxHeartbeats 4000000
namespace Pl
open Fx K
def rowsE (ks torn : List Sr) (D : Dk) (eps : Eps) (ahead : List Nat) (e : Ep) : List (List Pr):=(ks.zip (ahead.zip (moreF ks e))).map fun q=>zdk (decide (q.1∈torn)) (zcy D eps q.1) q.2.1 (q.2.1 + q.2.2)
theorem cnt_app {a b : Ep} {s : Sr} : cntF (a ++ b) s=cntF a s + cntF b s:=by unfold cntF; rw [List.filter_append,List.length_append]
theorem zhC {D : Dk} {eps : Eps} {s : Sr} : (zcy D eps s).length = 1 + cntF eps.flatten s:=by
 unfold zcy cntF
 rw [List.length_cons,List.length_map]; omega
theorem zip_self2 {α β γ : Type} {l : List α} {f : α→β} {g : α→γ} : l.zip ((l.map f).zip (l.map g))=l.map fun x=>(x,f x,g x):=by
 induction l with
 | nil=>rfl
 | cons a l ih=>simp only [List.map_cons,List.zip_cons_cons,ih]
theorem rowsE_eq {ks torn : List Sr} {D : Dk} {eps : Eps} {a e : Ep} : rowsE ks torn D eps (ks.map (cntF a)) e=ks.map fun s=>zdk (decide (s∈torn)) (zcy D eps s) (cntF a s) (cntF a s + cntF e s):=by
 unfold rowsE moreF
 rw [zip_self2,List.map_map]; rfl
theorem mem_insR {l : List (List Pr)} {r x : List Pr} : x∈insR l r↔x∈l∨x=r:=by
 unfold insR
 split
 ·rename_i h
  constructor
  ·exact .inl
  ·rintro (h | rfl)
   ·exact h
   ·assumption
 ·simp
theorem zmT {x : List Pr} : ∀ {rs l : List (List Pr)},x∈insAll l rs↔x∈l∨x∈rs
 | [],l=>by show x∈l↔_; simp
 | r :: rs,l=>by
  show x∈insAll (insR l r) rs↔_
  rw [zmT,mem_insR,List.mem_cons,or_assoc]
theorem nd_insR {l : List (List Pr)} {r : List Pr} (h : l.Nodup) : (insR l r).Nodup:=by
 unfold insR
 split
 ·exact h
 ·rename_i hr
  exact List.nodup_append.mpr ⟨h,by simp,fun a ha b hb=>by simp at hb; subst hb; intro e; subst e; exact hr ha⟩
theorem zpg : ∀ {rs l : List (List Pr)},l.Nodup→(insAll l rs).Nodup
 | [],_,h=>h
 | r :: rs,l,h=>zpg (rs:=rs) (nd_insR h)
section
variable {T : Tbl} {n : Nat} {h : MH}
structure KeepOk (ks torn : List Sr) (D : Dk) (eps : Eps) (c : Nat) : Prop where
 vo : ∀ s∈ks,ValsOk (zcy D eps s)
 hc : ∀ s∈ks,∀ lo hi,lo≤hi→hi < (zcy D eps s).length→(zdk (decide (s∈torn)) (zcy D eps s) lo hi).length≤c
 c1 : 1≤c
 hb : c ^ ks.length≤160000
 el : eps.length≤101
 kn : ks≠[]
 kl : ks.length≤10
 ap : ∀ e r,eps=e :: r→nApart [] (kd (insAll [] (zoZ (rowsE ks torn D eps (ks.map fun _=>0) e))))=true
end
end Pl
end
section
set_option maxHeartbeats 4000000
namespace Pl
open Fx K
theorem zgX {t : Bool} {vals : List Val} {k : Nat} {p : Pr} : p∈zkt t vals k↔p.1=k∧(p.2 = 0∨t=true∧1≤p.2∧p.2 < zoJ vals k):=by
 obtain ⟨n,j⟩:=p
 unfold zkt
 cases t with
 | false=>simp
 | true =>
  rw [List.mem_cons,if_pos rfl,List.mem_map]
  constructor
  ·rintro (h | ⟨i,mi,h⟩)
   ·cases h; exact ⟨rfl,.inl rfl⟩
   ·cases h
    rw [List.mem_range'_1] at mi
    exact ⟨rfl,.inr ⟨rfl,mi.1,by show j < _; omega⟩⟩
  ·rintro ⟨h,h2⟩
   have h : n=k:=h
   subst h
   rcases h2 with h2 | ⟨_,h2,h3⟩
   ·have h2 : j = 0:=h2
    subst h2; exact .inl rfl
   ·have h2 : 1≤j:=h2
    have h3 : j < _:=h3
    exact .inr ⟨j,List.mem_range'_1.mpr ⟨h2,by omega⟩,rfl⟩
theorem zku {t : Bool} {vals : List Val} {p : Pr} : p∈zns t vals↔p.1 < vals.length∧(p.2 = 0∨t=true∧1≤p.2∧p.2 < zoJ vals p.1):=by
 unfold zns
 rw [List.mem_flatMap]
 constructor
 ·rintro ⟨k,mk,mp⟩
  obtain ⟨e,h⟩:=zgX.mp mp
  subst e
  exact ⟨List.mem_range.mp mk,h⟩
 ·rintro ⟨h1,h2⟩
  exact ⟨p.1,List.mem_range.mpr h1,zgX.mpr ⟨rfl,h2⟩⟩
theorem znt {t : Bool} {vals : List Val} {lo hi : Nat} {p : Pr} (hl : lo≤hi) (hh : hi < vals.length) : p∈zdk t vals lo hi↔p∈zns t vals∧lo≤p.1∧p.1 + (if 0 < p.2 then 1 else 0)≤hi:=by
 rw [zku]
 unfold zdk
 rw [List.mem_cons,List.mem_flatMap]
 constructor
 ·rintro (rfl | ⟨k,mk,mp⟩)
  ·exact ⟨⟨hh,.inl rfl⟩,hl,Nat.le_refl _⟩
  ·obtain ⟨e,h⟩:=zgX.mp mp
   subst e
   rw [List.mem_range'_1] at mk
   refine ⟨⟨by omega,h⟩,mk.1,?_⟩
   split <;> omega
 ·rintro ⟨⟨h1,h2⟩,h3,h4⟩
  by_cases e : p.1=hi
  ·left
   by_cases z : 0 < p.2
   ·rw [if_pos z] at h4; omega
   ·obtain ⟨n,j⟩:=p
    have z : ¬ 0 < j:=z
    have e : n=hi:=e
    have : j = 0:=by omega
    subst e; subst this; rfl
  ·right
   have : p.1 < hi:=by
    split at h4 <;> omega
   exact ⟨p.1,List.mem_range'_1.mpr ⟨h3,by omega⟩,zgX.mpr ⟨rfl,h2⟩⟩
theorem prodT_mem {α β : Type} {f : β→List α} (l : List β) : ∀ (x : List α),x∈zoZ (l.map f)↔x.length=l.length∧∀ q∈l.zip x,q.2∈f q.1:=by
 induction l using snoc_ind with
 | h0 =>
  intro x
  constructor
  ·intro m; simp [zoZ] at m; subst m; exact ⟨rfl,fun q m=>by cases m⟩
  ·rintro ⟨h,_⟩; simp at h; subst h; simp [zoZ]
 | h1 l a ih =>
  intro x
  rw [List.map_append,List.map_cons,List.map_nil,prodT_snoc,List.mem_flatMap]
  constructor
  ·rintro ⟨y,my,m⟩
   obtain ⟨z,mz,rfl⟩:=List.mem_map.mp m
   obtain ⟨h1,h2⟩:=(ih y).mp my
   refine ⟨by simp [h1],?_⟩
   rw [List.zip_append h1.symm]
   intro q mq
   rcases List.mem_append.mp mq with mq | mq
   ·exact h2 q mq
   ·simp at mq; subst mq; exact mz
  ·rintro ⟨h1,h2⟩
   have hx : x≠[]:=by intro e; subst e; simp at h1
   have e : x.dropLast ++ [x.getLast hx]=x:=List.dropLast_concat_getLast hx
   have h3 : x.dropLast.length=l.length:=by
    rw [List.length_dropLast,h1,List.length_append]; rfl
   rw [← e,List.zip_append h3.symm] at h2
   refine ⟨x.dropLast,(ih _).mpr ⟨h3,fun q mq=>h2 q (List.mem_append_left _ mq)⟩,List.mem_map.mpr ⟨x.getLast hx,?_,e⟩⟩
   exact h2 (a,x.getLast hx) (List.mem_append_right _ (by simp))
end Pl
end
section
set_option maxHeartbeats 4000000
namespace Pl
open Fx K
structure zme where
 wk : Val
 mn : Val
 B : Dk
 torn : List Sr
 lg : Int
 mo : Int
 sp : List Int
 pi : List Int
 gr : Val
abbrev zme.fs (p : zme) : List (Nat × Slot):=[(zq5,.val p.wk),(zq6,.val p.mn),(zc7,.val (.dct p.B.dv)),(zay,.val (.lst (p.torn.map .str))),(zcX,.val (.int p.lg)),(zn2,.val (.int p.mo)),(zan,.val (.lst (p.sp.map .int))),(zcN,.val (.lst (p.pi.map .int))),(ziD,.val p.gr)]
abbrev zme.ob (p : zme) : Ob:=.inst 1 p.fs
theorem zme.f {h : MH} {a : Nat} {p : zme} (e : h.objs[a]? = some p.ob) : fieldOf h a zq5=some (.val p.wk)∧fieldOf h a zq6=some (.val p.mn)∧fieldOf h a zc7=some (.val (.dct p.B.dv))∧fieldOf h a zay=some (.val (.lst (p.torn.map .str)))∧fieldOf h a zcX=some (.val (.int p.lg))∧fieldOf h a zn2=some (.val (.int p.mo))∧fieldOf h a zan=some (.val (.lst (p.sp.map .int)))∧fieldOf h a zcN=some (.val (.lst (p.pi.map .int)))∧fieldOf h a ziD=some (.val p.gr)∧zbN h (.ref a) = .ref a :=
 ⟨zfk e _,zfk e _,zfk e _,zfk e _,zfk e _,zfk e _,zfk e _,zfk e _,zfk e _,de_at e⟩
theorem zme.m {T : Tbl} {h : MH} {a : Nat} {p : zme} (e : h.objs[a]? = some p.ob) {m : Nat} : ziO T h (.ref a) m=T.meths 1 m:=mo_at e
def wordsL : List Sr:=["a","b","c","d","f","p","x","y","z","done","mark","note","n","m","w","k","yyy","abcdefgh","e","zdone"]
structure zme.ok (p : zme) : Prop where
 nd : p.B.ks.Nodup
 wd : ∀ s∈p.B.ks,s∈wordsL
 ne : p.B≠[]
 nl : p.B.length≤10
 vals : ∀ q∈p.B,vOk q.2
 tn : p.torn.Nodup
 ts : ∀ s∈p.torn,s∈p.B.ks
 lg : 1≤p.lg∧p.lg≤60
 mo : 1≤p.mo∧p.mo≤2000
end Pl
end
section
set_option maxHeartbeats 4000000
namespace Pl
open Fx K
end Pl
end
section
set_option maxHeartbeats 4000000
namespace Pl
open Fx K
theorem znr {v : Val} {s : PySem.Str} : peq v (.str s)=true↔v = .str s:=by
 cases v with
 | str z=>show decide (z=s)=true↔_; simp
 | bool b=>exact ⟨fun h=>(by cases h),fun h=>(by cases h)⟩
 | int i=>exact ⟨fun h=>(by cases h),fun h=>(by cases h)⟩
 | none=>exact ⟨fun h=>(by cases h),fun h=>(by cases h)⟩
 | tup b l=>exact ⟨fun h=>(by cases h),fun h=>(by cases h)⟩
 | lst l=>exact ⟨fun h=>(by cases h),fun h=>(by cases h)⟩
 | dct l=>exact ⟨fun h=>(by cases h),fun h=>(by cases h)⟩
 | ref a=>exact ⟨fun h=>(by cases h),fun h=>(by cases h)⟩
 | fn g=>exact ⟨fun h=>(by cases h),fun h=>(by cases h)⟩
 | clo l cs=>exact ⟨fun h=>(by cases h),fun h=>(by cases h)⟩
 | exc c f as=>exact ⟨fun h=>(by cases h),fun h=>(by cases h)⟩
theorem zdv {p : Val × Val} {l : List (Val × Val)} {k : Val} : dget (p :: l) k=if peq p.1 k then some p.2 else dget l k:=by
 unfold dget
 rw [List.find?_cons]
 cases peq p.1 k <;> rfl
theorem dget_map {a s : PySem.Str} {v : Val} : ∀ (l : List (Val × Val)),dget (l.map fun p=>if peq p.1 (.str a) then (p.1,v) else p) (.str s)=if (dget l (.str a)).isSome∧a=s then some v else dget l (.str s)
  | []=>by simp [dget]
  | p :: l=>by
    rw [List.map_cons,zdv,zdv,zdv,dget_map l]
    by_cases h1 : peq p.1 (.str a)=true
    · by_cases h2 : a=s
      · subst h2; simp [h1]
      · have h3 : peq p.1 (.str s)=false:=by
          cases q : peq p.1 (.str s) with
          | false=>rfl
          | true =>
            have e1:=znr.mp h1
            have e2:=znr.mp q
            rw [e1] at e2; cases e2; exact absurd rfl h2
        simp [h1,h2,h3]
    · have h1 : peq p.1 (.str a)=false:=by simpa using h1
      simp only [h1,Bool.false_eq_true,if_false]
      by_cases h3 : peq p.1 (.str s)=true
      · have : a≠s:=fun e=>by rw [e] at h1; rw [h1] at h3; cases h3
        simp [h3,this]
      · simp [h3]
theorem dget_app {s : PySem.Str} {l m : List (Val × Val)} : dget (l ++ m) (.str s)=match dget l (.str s) with | some v=>some v | none=>dget m (.str s):=by
 induction l with
 | nil=>rfl
 | cons p l ih =>
  rw [List.cons_append,zdv,zdv,ih]
  by_cases h : peq p.1 (.str s)=true
  ·simp [h]
  ·simp [h]
theorem zpV {a s : PySem.Str} {v : Val} {l : List (Val × Val)} : dget (dput l (.str a) v) (.str s)=if a=s then some v else dget l (.str s):=by
 unfold dput
 by_cases h : (l.any fun p=>peq p.1 (.str a))=true
 ·rw [if_pos h,dget_map]
  rw [← zjG] at h
  simp [h]
 ·rw [if_neg h,dget_app]
  have h0 : dget l (.str a)=none:=by
   cases q : dget l (.str a) with
   | none=>rfl
   | some w=>rw [← zjG,q] at h; exact absurd rfl h
  by_cases e : a=s
  ·subst e
   rw [h0,if_pos rfl,zdv]
   have : peq (.str a) (.str a)=true:=znr.mpr rfl
   simp [this]
  ·rw [if_neg e]
   have h3 : peq (.str a) (.str s)=false:=by
    cases q : peq (.str a) (.str s) with
    | false=>rfl
    | true=>have:=znr.mp q; cases this; exact absurd rfl e
   have h4 : dget [(Val.str a,v)] (.str s)=none:=by
    rw [zdv]; simp [h3,dget]
   rw [h4]
   cases dget l (.str s) <;> rfl
structure Sim (x y : Hd) : Prop where
 tk : x.taken=y.taken
 wd : x.words=y.words
 fin : x.fin=y.fin
 now : ∀ s,dget x.now (.str s)=dget y.now (.str s)
theorem Sim.step {x y : Hd} (s : Sim x y) {r : Row} {t : Nat} {nt : Nts} : (∃ t' nt' x' y',zoK r t nt x = .inl (t',nt',x')∧zoK r t nt y = .inl (t',nt',y')∧Sim x' y')∨∃ e,zoK r t nt x = .inr e∧zoK r t nt y = .inr e:=by
 obtain ⟨h1,h2,h3,h4⟩:=s
 cases r with
 | say p=>exact .inl ⟨_,_,_,_,rfl,rfl,⟨h1,by show x.words ++ [_]=y.words ++ [_]; rw [h1,h2],h3,h4⟩⟩
 | fail p=>exact .inr ⟨_,rfl,rfl⟩
 | back p=>exact .inr ⟨_,rfl,rfl⟩
 | skip j v n=>exact .inl ⟨_,_,_,_,rfl,rfl,⟨h1,h2,h3,h4⟩⟩
 | put k p=>exact .inl ⟨_,_,_,_,rfl,rfl,⟨by show x.taken ++ [_]=y.taken ++ [_]; rw [h1],h2,h3,fun s=>by
   show dget (dput x.now _ _) _=dget (dput y.now _ _) _
   rw [zpV,zpV,h4]⟩⟩
 | look k m =>
  refine .inl ⟨t + 1,dput nt (.int m) ((dget x.now (.str k)).getD .none),(x.note (.tup false [.str "look",.str k]) ((dget x.now (.str k)).getD .none)),(y.note (.tup false [.str "look",.str k]) ((dget x.now (.str k)).getD .none)),rfl,?_,⟨by show x.taken ++ [_]=y.taken ++ [_]; rw [h1],h2,h3,h4⟩⟩
  rw [h4]; rfl
 | guard f=>exact .inl ⟨_,_,_,_,rfl,rfl,⟨by show x.taken ++ [_]=y.taken ++ [_]; rw [h1],h2,h3,h4⟩⟩
theorem Sim.go {rows : List Row} : ∀ (f t : Nat) (nt : Nts) {x y : Hd},Sim x y→Sim (goF rows f t nt x).1 (goF rows f t nt y).1∧(goF rows f t nt x).2=(goF rows f t nt y).2:=by
 intro f
 induction f with
 | zero=>intro t nt x y s; exact ⟨s,rfl⟩
 | succ f ih =>
  intro t nt x y s
  cases hr : rows[t]? with
  | none=>simp only [goF,hr]; exact ⟨s,trivial⟩
  | some r =>
   rcases s.step (r:=r) (t:=t) (nt:=nt) with ⟨t',nt',x',y',e1,e2,s'⟩ | ⟨e,e1,e2⟩
   ·simp only [goF,hr,e1,e2]; exact ih t' nt' s'
   ·simp only [goF,hr,e1,e2]; exact ⟨s,trivial⟩
structure Ty (nm : List Sr) (x : Hd) (D : Dk) (sts : List St) (ws : List (Nat × Val)) : Prop where
 now : x.now=D.dv
 ks : D.ks=nm
 tk : x.taken=sts.map stV
 wd : x.words=ws.map wdV
 so : ∀ s∈sts,znb nm s.1∧vOk s.2
 wo : ∀ p∈ws,vOk p.2
 wm : ∀ p∈ws,p.1≤sts.length
theorem rowW_put {nm : List Sr} {D : Dk} {s : Sr} (h : D.ks=nm) (g : (dget D.dv (.str s)).isSome=true) : s∈nm:=by
 rw [dv_get] at g
 obtain ⟨v,e⟩:=Option.isSome_iff_exists.mp g
 rw [← h]
 unfold Dk.look at e
 cases q : D.find? fun p=>decide (p.1=s) with
 | none=>rw [q] at e; cases e
 | some p =>
  have e0 : (fun p : Sr × Val=>decide (p.1=s)) p=true:=List.find?_some (p:=fun p : Sr × Val=>decide (p.1=s)) q
  exact List.mem_map.mpr ⟨p,List.mem_of_find?_eq_some q,of_decide_eq_true e0⟩
theorem zpj {α : Type} {P : α→Prop} {l : List α} {a : α} (h : ∀ x∈l,P x) (ha : P a) : ∀ x∈l ++ [a],P x:=fun x m=>by
 rcases List.mem_append.mp m with m | m
 ·exact h x m
 ·simp at m; subst m; exact ha
def isPutW : W→Bool
 | .put _ _=>true
 | _=>false
theorem Ty.step {nm : List Sr} {rows : List Row} {t t' : Nat} {nt nt' : Nts} {x x' : Hd} {r : Row} {D : Dk} {sts : List St} {ws : List (Nat × Val)} (y : Ty nm x D sts ws) (i : Iv rows t nt x) (hr : rows[t]? = some r) (e : zoK r t nt x = .inl (t',nt',x')) :
  ∃ D' sts' ws',Ty nm x' D' sts' ws'∧(sts' = sts∨∃ s,sts' = sts ++ [s]∧isWish r=true∧(isPutW s.1=true→isPutR r=true)):=by
 obtain ⟨rv,ro⟩:=i.rv r (List.mem_of_getElem? hr)
 obtain ⟨h1,h2,h3,h4,h5,h6,h7⟩:=y
 have h7' : ∀ s,∀ p∈ws,p.1≤(sts ++ [s]).length:=fun s p m=>by
  have:=h7 p m
  rw [List.length_append]; omega
 cases r with
 | say p =>
  cases e
  exact ⟨D,sts,ws ++ [(sts.length,zlE p nt)],⟨h1,h2,h3,by show x.words ++ [_] = _; rw [h4,h3,List.map_append,List.length_map]; rfl,h5,zpj h6 (zn4 i.nv rv),zpj (P:=fun p : Nat × Val=>p.1≤sts.length) h7 (Nat.le_refl _)⟩,.inl rfl⟩
 | fail p=>cases e
 | back p=>cases e
 | skip j v n =>
  have e : Sum.inl (if zci (zlQ nt j) v then t + 1 + n else t + 1,nt,x)=(Sum.inl (t',nt',x') : (Nat × Nts × Hd) ⊕ Fin):=e
  split at e <;> (cases e; exact ⟨D,sts,ws,⟨h1,h2,h3,h4,h5,h6,h7⟩,.inl rfl⟩)
 | put s p =>
  cases e
  have ms : s∈nm:=rowW_put h2 (by rw [← h1]; exact ro)
  refine ⟨D.put s (zlE p nt),sts ++ [(.put s (zlE p nt),.none)],ws,⟨?_,?_,?_,h4,zpj (P:=fun s : St=>znb nm s.1∧vOk s.2) (a:=(W.put s (zlE p nt),Val.none)) h5 ⟨⟨ms,zn4 i.nv rv⟩,zjv⟩,h6,h7' _⟩,.inr ⟨_,rfl,rfl,fun _=>rfl⟩⟩
  ·show dput x.now _ _ = _
   rw [h1,dv_put]
  ·rw [zqz (by rw [h2]; exact ms),h2]
  ·show x.taken ++ [_] = _
   rw [h3,List.map_append]; rfl
 | look s k =>
  cases e
  obtain ⟨v,hv⟩:=Option.isSome_iff_exists.mp ro
  have hv2 : vOk ((dget x.now (.str s)).getD .none):=by
   rw [hv]
   obtain ⟨p,m,e⟩:=zo7 hv
   exact e ▸ i.vals p m
  exact ⟨D,sts ++ [(.look s,(dget x.now (.str s)).getD .none)],ws,⟨h1,h2,by show x.taken ++ [_] = _; rw [h3,List.map_append]; rfl,h4,zpj (P:=fun s : St=>znb nm s.1∧vOk s.2) (a:=(W.look s,(dget x.now (.str s)).getD .none)) h5 ⟨trivial,hv2⟩,h6,h7' _⟩,.inr ⟨_,rfl,rfl,fun z=>by cases z⟩⟩
 | guard f =>
  cases e
  refine ⟨D,sts ++ [(if f then .flu else .bar,.none)],ws,⟨h1,h2,?_,h4,zpj (P:=fun s : St=>znb nm s.1∧vOk s.2) (a:=((if f then W.flu else .bar),Val.none)) h5 ⟨by cases f <;> trivial,zjv⟩,h6,h7' _⟩,.inr ⟨_,rfl,rfl,fun z=>by cases f <;> cases z⟩⟩
  show x.taken ++ [_] = _
  rw [h3,List.map_append]; cases f <;> rfl
theorem drop_cnt {q : Row→Bool} {rows : List Row} {t t' : Nat} (h : t≤t') : (rows.drop t').countP q≤(rows.drop t).countP q:=by
 have : rows.drop t' = (rows.drop t).drop (t' - t):=by rw [List.drop_drop]; congr 1; omega
 rw [this]
 exact (List.drop_sublist ..).countP_le
theorem Ty.go {nm : List Sr} {rows : List Row} : ∀ (f t : Nat) (nt : Nts) (x : Hd) (D : Dk) (sts : List St) (ws : List (Nat × Val)),Iv rows t nt x→Ty nm x D sts ws→∃ D' new ws',Ty nm (goF rows f t nt x).1 D' (sts ++ new) ws'∧new.length≤(rows.drop t).countP isWish∧new.countP (fun s=>isPutW s.1)≤(rows.drop t).countP isPutR:=by
 intro f
 induction f with
 | zero=>intro t nt x D sts ws i y; exact ⟨D,[],ws,by rw [List.append_nil]; exact y,by simp,by simp⟩
 | succ f ih =>
  intro t nt x D sts ws i y
  cases hr : rows[t]? with
  | none=>simp only [goF,hr]; exact ⟨D,[],ws,by rw [List.append_nil]; exact y,by simp,by simp⟩
  | some r =>
   cases q : zoK r t nt x with
   | inl z =>
    obtain ⟨t',nt',x'⟩:=z
    simp only [goF,hr,q]
    obtain ⟨i',lt⟩:=i.step hr q
    obtain ⟨D',sts',ws',y',hs⟩:=y.step i hr q
    obtain ⟨D2,new,ws2,y2,n1,n2⟩:=ih t' nt' x' D' sts' ws' i' y'
    have dr : rows.drop t=r :: rows.drop (t + 1):=by
     obtain ⟨lt2,e⟩:=List.getElem?_eq_some_iff.mp hr
     rw [List.drop_eq_getElem_cons lt2,e]
    have d1:=drop_cnt (q:=isWish) (rows:=rows) (t:=t + 1) (t':=t') lt
    have d2:=drop_cnt (q:=isPutR) (rows:=rows) (t:=t + 1) (t':=t') lt
    rw [dr,List.countP_cons,List.countP_cons]
    rcases hs with rfl | ⟨s,rfl,h1,h2⟩
    ·exact ⟨D2,new,ws2,y2,by omega,by omega⟩
    ·refine ⟨D2,s :: new,ws2,by rw [List.append_assoc] at y2; exact y2,?_,?_⟩
     ·rw [List.length_cons,if_pos h1]; omega
     ·rw [List.countP_cons]
      by_cases z : isPutW s.1=true
      ·rw [if_pos z,if_pos (h2 z)]; omega
      ·rw [if_neg z]; omega
   | inr e=>simp only [goF,hr,q]; exact ⟨D,[],ws,by rw [List.append_nil]; exact y,by simp,by simp⟩
abbrev hd0 (D : Dk) (L : Int) : Hd:=⟨D.dv,L,[],[],.none,.bool false⟩
structure RR (rows : List Row) (D : Dk) (sts : List St) (ws : List (Nat × Val)) (fin : Val) : Prop where
 tk : ∀ L,(gH rows (hd0 D L)).1.taken=sts.map stV
 wd : ∀ L,(gH rows (hd0 D L)).1.words=ws.map wdV
 fi : ∀ L,(gH rows (hd0 D L)).2.v=fin
 so : ∀ s∈sts,znb D.ks s.1∧vOk s.2
 wo : ∀ p∈ws,vOk p.2
 fo : pvOk fin=true
 sl : sts.length≤36
 sn : sts.length≤rows.countP isWish
 pn : sts.countP (fun s=>isPutW s.1)≤rows.countP isPutR
 wl : ws.length≤36
 fv : isVl fin=true∧dep fin≤5
 wm : ∀ p∈ws,p.1≤sts.length
theorem sim0 {D D' : Dk} {L L' : Int} (h : ∀ s,D.look s=D'.look s) : Sim (hd0 D L) (hd0 D' L'):=⟨rfl,rfl,rfl,fun s=>by show dget D.dv _=dget D'.dv _; rw [dv_get,dv_get,h]⟩
theorem RR.same {rows : List Row} {D D' : Dk} {sts : List St} {ws : List (Nat × Val)} {fin : Val} (r : RR rows D sts ws fin) (h : ∀ s,D'.look s=D.look s) (hk : ∀ s,s∈D.ks→s∈D'.ks) : RR rows D' sts ws fin:=by
 have sm:=fun L=>(Sim.go (rows:=rows) rows.length 0 [] (sim0 (D:=D') (D':=D) (L:=L) (L':=L) h))
 refine ⟨fun L=>(sm L).1.tk.trans (r.tk L),fun L=>(sm L).1.wd.trans (r.wd L),fun L=>(congrArg Fin.v (sm L).2).trans (r.fi L),fun s m=>⟨?_,(r.so s m).2⟩,r.wo,r.fo,r.sl,r.sn,r.pn,r.wl,r.fv,r.wm⟩
 have z:=(r.so s m).1
 cases q : s.1 with
 | put a v=>rw [q] at z; exact ⟨hk a z.1,z.2⟩
 | _=>trivial
end Pl
end
section
set_option maxHeartbeats 4000000
namespace Pl
open Fx K
end Pl
end
section
set_option maxHeartbeats 4000000
namespace Pl
open Fx K
def hPr (p : Pr) : Int:=PySem.reduceHash (PySem.Builtin.Tuple.tupleHashOf [PySem.hashInt (p.1 : Int),PySem.hashInt (p.2 : Int)])
def hRow (r : List Pr) : Int:=PySem.reduceHash (PySem.Builtin.Tuple.tupleHashOf (r.map hPr))
theorem nh_pair {p : Pr} : nHash (pairV p)=some (hPr p):=rfl
theorem nh_pairs : ∀ {r : List Pr},zfb (r.map pairV)=some (r.map hPr)
 | []=>rfl
 | p :: r=>by
  show (match nHash (pairV p),zfb (r.map pairV) with | some h,some hs=>some (h :: hs) | _,_=>Option.none) = _
  rw [nh_pair,nh_pairs]; rfl
theorem nh_row {r : List Pr} : nHash (rowW r)=some (hRow r):=by
 show (zfb (r.map pairV)).map _ = _
 rw [nh_pairs]; rfl
theorem nh_rows : ∀ {l : List (List Pr)},zfb (l.map rowW)=some (l.map hRow)
 | []=>rfl
 | r :: l=>by
  show (match nHash (rowW r),zfb (l.map rowW) with | some h,some hs=>some (h :: hs) | _,_=>Option.none) = _
  rw [nh_row,nh_rows]; rfl
def wtP (q : Pr) : Nat:=q.1 + if 0 < q.2 then 1 else 0
def candP (p w : Nat) : List Pr:=(List.range (p + 1)).flatMap fun n=>(n,0) :: (if n < p then (List.range' 1 (w - 1)).map fun j=>(n,j) else [])
def genU : Nat→Nat→Nat→List (List Pr)
 | 0,_,_=>[[]]
 | k + 1,p,w=>(candP p w).flatMap fun q=>(genU k (p - wtP q) w).map (q :: ·)
def nodM : List Nat→Nat→Bool
 | [],_=>true
 | a :: r,m=>if Nat.testBit m (a % 1000003) then false else match Nat.lor m (2 ^ (a % 1000003)) with
  | 0=>false
  | k + 1=>nodM r (k + 1)
theorem nodM_nd : ∀ {l : List Nat} {m : Nat},nodM l m=true→l.Nodup∧∀ a∈l,m.testBit (a % 1000003)=false
 | [],_,_=>⟨List.nodup_nil,fun a m=>by cases m⟩
 | a :: r,m,h=>by
  have h : (if Nat.testBit m (a % 1000003) then false else match Nat.lor m (2 ^ (a % 1000003)) with | 0=>false | k + 1=>nodM r (k + 1))=true:=h
  by_cases z : Nat.testBit m (a % 1000003)=true
  ·rw [if_pos z] at h; cases h
  ·rw [if_neg z] at h
   have z : Nat.testBit m (a % 1000003)=false:=by simpa using z
   cases q : Nat.lor m (2 ^ (a % 1000003)) with
   | zero=>rw [q] at h; cases h
   | succ k =>
    rw [q] at h
    have h : nodM r (k + 1)=true:=h
    rw [← q] at h
    obtain ⟨h1,h2⟩:=nodM_nd h
    have h3 : ∀ b∈r,m.testBit (b % 1000003)=false∧b≠a:=fun b mb=>by
     have:=h2 b mb
     have e : (m ||| 2 ^ (a % 1000003)).testBit (b % 1000003)=false:=this
     rw [Nat.testBit_or,Bool.or_eq_false_iff] at e
     refine ⟨e.1,fun y=>?_⟩
     have e2:=e.2
     rw [y,Nat.testBit_two_pow_self] at e2
     cases e2
    refine ⟨List.nodup_cons.mpr ⟨fun ma=>(h3 a ma).2 rfl,h1⟩,fun b mb=>?_⟩
    rcases List.mem_cons.mp mb with rfl | mb
    ·exact z
    ·exact (h3 b mb).1
def hNat (r : List Pr) : Nat:=(hRow r + 9223372036854775808).toNat
def chkU (k p w : Nat) : Bool:=nodM ((genU k p w).map hNat) 0
end Pl
end
section
set_option maxHeartbeats 4000000
namespace Pl
open Fx K
theorem cand_mem {p w : Nat} {q : Pr} (h1 : wtP q≤p) (h2 : q.2 = 0∨1≤q.2∧q.2 < w) : q∈candP p w:=by
 obtain ⟨n,j⟩:=q
 unfold candP
 unfold wtP at h1
 have h1 : n + (if 0 < j then 1 else 0)≤p:=h1
 have h2 : j = 0∨1≤j∧j < w:=h2
 refine List.mem_flatMap.mpr ⟨n,List.mem_range.mpr (by split at h1 <;> omega),?_⟩
 rcases h2 with rfl | ⟨h2,h3⟩
 ·exact List.mem_cons_self ..
 ·rw [if_pos (by omega : 0 < j)] at h1
  rw [if_pos (by omega)]
  exact List.mem_cons_of_mem _ (List.mem_map.mpr ⟨j,List.mem_range'_1.mpr ⟨h2,by omega⟩,rfl⟩)
theorem genU_mem : ∀ {x : List Pr} {p w : Nat},(x.map wtP).sum≤p→(∀ q∈x,q.2 = 0∨1≤q.2∧q.2 < w)→x∈genU x.length p w
 | [],_,_,_,_=>by simp [genU]
 | q :: x,p,w,h1,h2=>by
  rw [List.map_cons,List.sum_cons] at h1
  show q :: x∈(candP p w).flatMap fun q=>(genU x.length (p - wtP q) w).map (q :: ·)
  refine List.mem_flatMap.mpr ⟨q,cand_mem (by omega) (h2 q (List.mem_cons_self ..)),List.mem_map.mpr ⟨x,?_,rfl⟩⟩
  exact genU_mem (by omega) fun y m=>h2 y (List.mem_cons_of_mem _ m)
theorem inj_nd {α β : Type} {f : α→β} : ∀ {l : List α},(l.map f).Nodup→∀ a∈l,∀ b∈l,f a=f b→a=b
 | [],_,a,m,_,_,_=>by cases m
 | x :: l,h,a,ma,b,mb,e=>by
  have h:=List.nodup_cons.mp (show (f x :: l.map f).Nodup from h)
  rcases List.mem_cons.mp ma with ea | ma' <;> rcases List.mem_cons.mp mb with eb | mb'
  ·rw [ea,eb]
  ·exact absurd (List.mem_map.mpr ⟨b,mb',by rw [← ea]; exact e.symm⟩) h.1
  ·exact absurd (List.mem_map.mpr ⟨a,ma',by rw [← eb]; exact e⟩) h.1
  ·exact inj_nd h.2 a ma' b mb' e
theorem nd_map {α β : Type} {f : α→β} : ∀ {l : List α},l.Nodup→(∀ a∈l,∀ b∈l,f a=f b→a=b)→(l.map f).Nodup
 | [],_,_=>List.nodup_nil
 | x :: l,h,i=>by
  have h:=List.nodup_cons.mp h
  rw [List.map_cons]
  refine List.nodup_cons.mpr ⟨fun m=>?_,nd_map h.2 fun a ma b mb=>i a (List.mem_cons_of_mem _ ma) b (List.mem_cons_of_mem _ mb)⟩
  obtain ⟨y,my,e⟩:=List.mem_map.mp m
  have:=i y (List.mem_cons_of_mem _ my) x (List.mem_cons_self ..) e
  exact h.1 (this ▸ my)
theorem apart_of {k p w : Nat} {l : List (List Pr)} (hc : chkU k p w=true) (nd : l.Nodup) (hu : ∀ x∈l,x∈genU k p w) : nApart [] (kd l)=true:=by
 have hk : (kd l).map (·.1)=l.map rowW:=by unfold kd; rw [List.map_map]; rfl
 unfold nApart
 rw [hk,nh_rows]
 show decide ((l.map hRow).Nodup)=true
 refine decide_eq_true (nd_map nd fun a ma b mb e=>?_)
 have z:=(nodM_nd hc).1
 exact inj_nd z a (hu a ma) b (hu b mb) (by unfold hNat; rw [e])
theorem cnt_sum : ∀ {e : Ep} {ks : List Sr},ks.Nodup→(ks.map (cntF e)).sum≤e.length
 | [],ks,_=>by
  have : ∀ ks : List Sr,(ks.map (cntF [])).sum = 0:=fun ks=>by
   induction ks with
   | nil=>rfl
   | cons s ks ih=>rw [List.map_cons,List.sum_cons,ih]; rfl
  rw [this]; simp
 | p :: e,ks,nd=>by
  have ih:=cnt_sum (e:=e) nd
  have one : ∀ {ks : List Sr},ks.Nodup→(ks.map (cntF (p :: e))).sum≤(ks.map (cntF e)).sum + (if p.1∈ks then 1 else 0):=by
   intro ks
   induction ks with
   | nil=>intro _; simp
   | cons s ks ih =>
    intro nd
    have nd:=List.nodup_cons.mp nd
    have i:=ih nd.2
    rw [List.map_cons,List.map_cons,List.sum_cons,List.sum_cons]
    have c : cntF (p :: e) s=cntF e s + (if p.1=s then 1 else 0):=by
     unfold cntF
     rw [List.filter_cons]
     by_cases z : p.1=s
     ·rw [if_pos (by simpa using z),if_pos z]; rfl
     ·rw [if_neg (by simpa using z),if_neg z]; rfl
    rw [c]
    by_cases z : p.1=s
    ·rw [if_pos z,if_pos (by rw [z]; exact List.mem_cons_self ..)]
     rw [if_neg (by rw [z]; exact nd.1)] at i
     omega
    ·rw [if_neg z]
     by_cases y : p.1∈ks
     ·rw [if_pos y] at i
      rw [if_pos (List.mem_cons_of_mem _ y)]; omega
     ·rw [if_neg y] at i
      rw [if_neg (fun m=>by rcases List.mem_cons.mp m with m | m; exact z m; exact y m)]; omega
  have o:=one nd
  rw [List.length_cons]
  split at o <;> omega
structure BndOk (ks torn : List Sr) (D : Dk) (eps : Eps) (p w : Nat) : Prop where
 hp : eps.flatten.length≤p
 hw : ∀ s∈ks,s∈torn→∀ b l,Val.tup b l∈zcy D eps s→l.length≤w
 w1 : 1≤w
 hb : ((p + 1) * w) ^ ks.length≤160000
 ck : chkU ks.length p w=true
theorem cnt_le {e : Ep} {s : Sr} : cntF e s≤e.length:=List.length_filter_le ..
theorem flatten_le {eps : Eps} {e : Ep} (m : e∈eps) : e.length≤eps.flatten.length:=by
 obtain ⟨a,b,rfl⟩:=List.append_of_mem m
 rw [List.flatten_append,List.flatten_cons,List.length_append,List.length_append]; omega
theorem parts_w {t : Bool} {vals : List Val} {k w : Nat} (h1 : 1≤w) (h : t=true→∀ b l,Val.tup b l∈vals→l.length≤w) : (zkt t vals k).length≤w:=by
 unfold zkt
 cases t with
 | false=>simpa using h1
 | true =>
  have:=zoI (k:=k) (h rfl)
  simp; omega
theorem znu {t : Bool} {vals : List Val} {p w lo hi : Nat} (h1 : 1≤w) (h : t=true→∀ b l,Val.tup b l∈vals→l.length≤w) (hp : hi - lo≤p) : (zdk t vals lo hi).length≤(p + 1) * w:=by
 unfold zdk
 have:=zl8 (f:=zkt t vals) (l:=List.range' lo (hi - lo)) (c:=w) fun k _=>parts_w h1 h
 rw [List.length_range'] at this
 rw [List.length_cons,Nat.succ_mul]
 have:=Nat.mul_le_mul_right w hp
 omega
theorem vOk_tup {b : Bool} {l : List Val} (h : vOk (.tup b l)) : l.length≤1000:=by
 have:=Bool.and_eq_true_iff.mp (show (decide (l.length≤1000∧b=false) && isVls l)=true from h.1)
 exact (of_decide_eq_true this.1).1
theorem zmt {nm : List Sr} {D : Dk} {eps : Eps} {s : Sr} (lo : LateOk nm D eps) (hs : s∈nm) : ∀ v∈zcy D eps s,vOk v:=by
 intro v mv
 unfold zcy at mv
 rcases List.mem_cons.mp mv with rfl | mv
 ·exact look_vOk (P:=vOk) (lo.ks s hs) lo.vals
 ·obtain ⟨q,mq,rfl⟩:=List.mem_map.mp mv
  exact (lo.puts q ((List.mem_filter.mp mq).1)).2
theorem vals_ok {nm : List Sr} {D : Dk} {eps : Eps} {s : Sr} (lo : LateOk nm D eps) (hs : s∈nm) : ValsOk (zcy D eps s):=by
 refine ⟨?_,fun v mv=>?_,fun b l mv=>vOk_tup (zmt lo hs _ mv)⟩
 ·rw [zhC]
  have:=cnt_le (e:=eps.flatten) (s:=s)
  have:=lo.pl
  omega
 ·have:=zmt lo hs v mv
  exact ⟨pv_plain this.2.2,fun h=>de_vl this.1⟩
theorem late_LS {r : RunV} (ok : r.ok) (m : Nat) : (zm9 r.sp r.pi r.D (r.sts.take m)).ok r.ns 100:=by
 have z:=late_ok (sp:=r.sp) (pi:=r.pi) (ks:=r.ns) ((r.sts.take m).zipIdx 0) 0 ⟨r.D,[],[]⟩ ⟨ok.ks,ok.vals,by simp [LS.eps],by simp [LS.eps],by simp⟩ fun x mx=>(ok.puts x.1 (List.mem_of_mem_take (List.fst_mem_of_mem_zipIdx mx))).1
 rw [List.length_zipIdx,List.length_take] at z
 have:=ok.sl
 exact ⟨z.ks,z.vals,z.puts,Nat.le_trans z.pl (by omega),Nat.le_trans z.el (by omega)⟩
theorem late_lo {r : RunV} (ok : r.ok) (m : Nat) : LateOk r.ns (zm9 r.sp r.pi r.D (r.sts.take m)).D (zm9 r.sp r.pi r.D (r.sts.take m)).eps:=by
 have z:=late_LS ok m
 exact ⟨fun s m=>by rw [z.ks]; exact m,ok.so,ok.nd,z.vals,z.puts,z.pl⟩
theorem sum_le {e : Ep} : ∀ {l : List Sr} {x : List Pr},x.length=l.length→(∀ q∈l.zip x,wtP q.2≤cntF e q.1)→(x.map wtP).sum≤(l.map (cntF e)).sum
 | [],x,h,_=>by
  have : x = []:=List.eq_nil_of_length_eq_zero h
  subst this; exact Nat.le_refl _
 | s :: l,[],_,_=>Nat.zero_le _
 | s :: l,q :: x,h,p=>by
  rw [List.map_cons,List.map_cons,List.sum_cons,List.sum_cons]
  have h1:=p (s,q) (by simp)
  have h2:=sum_le (e:=e) (l:=l) (x:=x) (by simpa using h) fun z mz=>p z (by rw [List.zip_cons_cons]; exact List.mem_cons_of_mem _ mz)
  exact Nat.add_le_add h1 h2
theorem keep_ok {r : RunV} {m p w : Nat} (ok : r.ok) (kn : r.ns≠[]) (b : BndOk r.ns r.torn (zm9 r.sp r.pi r.D (r.sts.take m)).D (zm9 r.sp r.pi r.D (r.sts.take m)).eps p w) :
  KeepOk r.ns r.torn (zm9 r.sp r.pi r.D (r.sts.take m)).D (zm9 r.sp r.pi r.D (r.sts.take m)).eps ((p + 1) * w):=by
 have lo:=late_lo ok m
 have zs:=late_LS ok m
 have el : (zm9 r.sp r.pi r.D (r.sts.take m)).eps.length≤101:=by
  unfold LS.eps
  rw [List.length_append,List.length_cons,List.length_nil]
  have:=zs.el; omega
 generalize (zm9 r.sp r.pi r.D (r.sts.take m)).D=D at *
 generalize (zm9 r.sp r.pi r.D (r.sts.take m)).eps=eps at *
 have hw' : ∀ s∈r.ns,decide (s∈r.torn)=true→∀ b l,Val.tup b l∈zcy D eps s→l.length≤w:=fun s ms z=>b.hw s ms (of_decide_eq_true z)
 refine ⟨fun s ms=>vals_ok lo ms,fun s ms l h h1 h2=>znu b.w1 (hw' s ms) ?_,?_,b.hb,el,kn,ok.nl,?_⟩
 ·rw [zhC] at h2
  have:=cnt_le (e:=eps.flatten) (s:=s)
  have:=b.hp
  omega
 ·have:=b.w1
  exact Nat.le_trans this (Nat.le_mul_of_pos_left _ (by omega))
 ·intro e rr he
  refine apart_of b.ck (zpg (by simp)) fun x mx=>?_
  have mx : x∈zoZ (rowsE r.ns r.torn D eps (r.ns.map fun _=>0) e):=by
   rcases zmT.mp mx with z | z
   ·cases z
   ·exact z
  rw [show (r.ns.map fun _=>0)=r.ns.map (cntF []) from rfl,rowsE_eq] at mx
  obtain ⟨m1,m2⟩:=(prodT_mem r.ns x).mp mx
  have me : e∈eps:=by rw [he]; exact List.mem_cons_self ..
  have cl : ∀ s,cntF [] s + cntF e s < (zcy D eps s).length:=fun s=>by
   rw [zhC,he,List.flatten_cons,cnt_app]
   have : cntF [] s = 0:=rfl
   omega
  have pm : ∀ q∈r.ns.zip x,(q.2.2 = 0∨1≤q.2.2∧q.2.2 < w)∧wtP q.2≤cntF e q.1:=fun q mq=>by
   have ms:=(List.of_mem_zip mq).1
   obtain ⟨h1,h2,h3⟩:=(znt (by omega) (cl q.1)).mp (m2 q mq)
   have h4:=(zku.mp h1).2
   refine ⟨?_,by unfold wtP; have : cntF [] q.1 = 0:=rfl; omega⟩
   rcases h4 with h4 | ⟨ht,h4,h5⟩
   ·exact .inl h4
   ·have:=zoI (k:=q.2.1) (hw' q.1 ms ht)
    exact .inr ⟨h4,by omega⟩
  rw [← m1]
  refine genU_mem ?_ fun q mq=>?_
  ·have s1:=sum_le (e:=e) m1 fun q mq=>(pm q mq).2
   have s2:=cnt_sum (e:=e) ok.nd
   have s3:=flatten_le me
   have:=b.hp
   omega
  ·obtain ⟨i,lt,rfl⟩:=List.getElem_of_mem mq
   have lt2 : i < r.ns.length:=by omega
   have : (r.ns[i],x[i])∈r.ns.zip x:=by
    refine List.mem_iff_getElem.mpr ⟨i,by rw [List.length_zip]; omega,?_⟩
    rw [List.getElem_zip]
   exact (pm _ this).1
end Pl
end
section
set_option maxHeartbeats 4000000
namespace Pl
open Fx K
mutual
theorem zqy : ∀ {v : Val},pvOk v=true→isPv v=true
 | .none,_=>rfl
 | .bool _,_=>rfl
 | .int _,_=>rfl
 | .str _,_=>rfl
 | .tup _ l,h=>zna (ziM h).2
 | .lst l,h=>zna (ziM h).2
theorem zna : ∀ {l : List Val},zgQ l=true→zg1 l=true
 | [],_=>rfl
 | v :: l,h=>by
  have h:=Bool.and_eq_true_iff.mp (show (pvOk v && zgQ l)=true from h)
  show (isPv v && zg1 l)=true
  rw [zqy h.1,zna h.2]; rfl
end
mutual
theorem dd_pv {h : MH} : ∀ {v : Val},isPv v=true→dd h v=some v
 | .none,_=>rfl
 | .bool _,_=>rfl
 | .int _,_=>rfl
 | .str _,_=>rfl
 | .tup b l,z=>by show (ddL h l).map (Val.tup b) = _; rw [dds_pv z]; rfl
 | .lst l,z=>by show (ddL h l).map Val.lst = _; rw [dds_pv z]; rfl
theorem dds_pv {h : MH} : ∀ {l : List Val},zg1 l=true→ddL h l=some l
 | [],_=>rfl
 | v :: l,z=>by
  have z:=Bool.and_eq_true_iff.mp (show (isPv v && zg1 l)=true from z)
  show (dd h v).bind (fun w=>(ddL h l).map (w :: ·)) = _
  rw [dd_pv z.1,dds_pv z.2]; rfl
end
noncomputable def callFK (C : Callee) (g : Nat) (vs : List Val) : Fr→MH→Res Val:=fun σ h=>match ddL h vs with
  | Option.none=>.stuck
  | some ys=>(match C (.fn g) (ys.map Slot.val) ⟨[],[]⟩ with
   | .ok v _ _=>if zba v then .ok v σ h else .stuck
   | _=>.stuck)
theorem ev_callFn {T : Tbl} {C : Callee} {σ : Fr} {h : MH} {g es} : ev T C (.callF g es) σ h=rb (evs T C es σ h) (callFK C g):=rfl
theorem callF_same {T : Tbl} {n : Nat} {σ : Fr} {h : MH} (hT : T.defs zbQ=some zeR) {x y w : Val} (h1 : dd h x=some w) (h2 : dd h y=some w) (hw : pvOk w=true) (hd : dep w≤n) :
  callFK (Fx.call T (n + 1)) zbQ [x,y] σ h = .ok (.bool true) σ h:=by
 have e : ddL h [x,y]=some [w,w]:=by
  show (dd h x).bind (fun w=>((dd h y).bind fun w=>(ddL h []).map (w :: ·)).map (w :: ·)) = _
  rw [h1,h2]; rfl
 unfold callFK
 rw [e]
 dsimp only
 rw [show List.map Slot.val [w,w] = [.val w,.val w] from rfl,sp_same hT n w w ⟨[],[]⟩ hd hw hw,same_refl hw]
 rfl
end Pl
end
section
set_option maxHeartbeats 4000000
namespace Pl
open Fx K
abbrev t01:=K01.tbl
section
variable {T : Tbl} {C : Callee} {σ : Fr} {h h' : MH} {c d f n : Nat} {e : Exp} {as : List Val} {w a : Val}
def isxK (T : Tbl) (d : Nat) (v : Val) : Fr→MH→Res Val:=match v with
 | .exc c _ _=>rt (.bool (T.excs c d))
 | _=>fun _ _=>.stuck
theorem ev_mkxn : ev T C (.mkx c f e) σ h=rb (ev T C e σ h) fun v=>rt (.exc c f [v]):=rfl
theorem ev_mkx0n : ev T C (.mkx0 c f) σ h = .ok (.exc c f []) σ h:=rfl
theorem zrm : ev T C (.isx d e) σ h=rb (ev T C e σ h) (isxK T d):=rfl
theorem isxK_a : isxK T d (.exc c f as) σ h = .ok (.bool (T.excs c d)) σ h:=rfl
theorem stR_ap01 {x : Val} {l : List Val} {i : Nat} (e : l.length < 16777216) : stR x ziw i (some (.own (.lst l))) σ h = .nx (σ.set i (.own (.lst (l ++ [x])))) h:=zqt (zq0 e)
theorem stR_ex01 {l r : List Val} {i : Nat} (e : (l ++ r).length≤16777216) : stR (.lst r) zlc i (some (.own (.lst l))) σ h = .nx (σ.set i (.own (.lst (l ++ r)))) h:=zqt (zpO e)
theorem de_exc : zbN h (.exc c f as) = .exc c f as:=rfl
def kd01 (c : Nat) : List Bool:=[t01.excs c zep,t01.excs c zcK,t01.excs c zdi,t01.excs c zeo,t01.excs c zcJ,t01.excs c zbP,t01.excs c zdN,t01.excs c zcx,t01.excs c zcH,t01.excs c zeV,t01.excs c zcG]
theorem flat01 : ∀ l : List Bool,(l.flatMap fun b : Bool=>if b=true then [Val.bool true] else []).length=(l.filter id).length
 | []=>rfl
 | true :: l=>by
  show ([Val.bool true] ++ l.flatMap _).length=(true :: l.filter id).length
  rw [List.length_append,List.length_cons,flat01 l]; simp [Nat.add_comm]
 | false :: l=>by
  show ([] ++ l.flatMap _).length=(l.filter id).length
  rw [List.nil_append,flat01 l]
theorem zn5 (hk : ((kd01 c).filter id).length = 1) : Fx.call t01 (n + 1) (.fn 92) [.val (.exc c f as)] h = .ok (.int 1) [.val (.exc c f as)] h:=by
 refine call_e (d:=K01.zhy) rfl rfl rfl rfl rfl ?_
 simp only [K01.zhy]
 simp! [zrm,isxK_a,stR_ap01,stR_ex01]
 have e3 : [Val.bool (t01.excs c zep),Val.bool (t01.excs c zcK),Val.bool (t01.excs c zdi),Val.bool (t01.excs c zeo),Val.bool (t01.excs c zcJ),Val.bool (t01.excs c zbP),Val.bool (t01.excs c zdN),Val.bool (t01.excs c zcx),Val.bool (t01.excs c zcH),Val.bool (t01.excs c zeV),Val.bool (t01.excs c zcG)]=(kd01 c).map Val.bool:=rfl
 rw [e3]
 have fl:=flat01 (kd01 c)
 rw [hk] at fl
 generalize kd01 c=l at fl
 refine compP_rxo (fun b : Bool=>if b=true then [Val.bool true] else []) ?_ ?_
 ·intro b _
  cases b with
  | true=>simp! [if_pos]
  | false=>simp! []
 ·have l1 : ((l.flatMap fun b : Bool=>if b=true then [Val.bool true] else []).length≤16777216)=True:=eq_true (by omega)
  simp! [l1,fl]
  rfl
def L01 : List (Nat × Nat × Nat):=[(102,25,59),(103,26,60),(104,27,61),(105,25,62),(106,28,63),(107,29,64),(108,30,65),(109,31,66),(110,26,67)]
abbrev pr01 (a : Val) (p : Nat × Nat × Nat) : Val:=.tup false [.exc p.1 p.2.1 [a],.exc p.1 p.2.1 [a],.clo p.2.2 []]
theorem sp_pairs (de : ∀ h,zbN h a=a) : Fx.call t01 (n + 1) (.fn 93) [.val a] h = .ok (.lst (L01.map (pr01 a))) [.val a] h:=by
 have em : ∀ (l : Nat) (C : Callee) (σ : Fr) (h : MH),ev t01 C (.lam l []) σ h = .ok (.clo l []) σ h:=fun _ _ _ _=>rfl
 refine call_e (d:=K01.zhx) rfl rfl rfl rfl rfl ?_
 simp only [K01.zhx]
 simp! [ev_mkxn,em,de,stR_ap01,stR_ex01]
 rfl
theorem sp_fld {p : Nat × Nat × Nat} (mp : p∈L01) : Fx.call t01 (n + 1) (.lam p.2.2 []) [.val (.exc p.1 p.2.1 [a])] h = .ok a [.val (.exc p.1 p.2.1 [a])] h∧t01.excs p.1 100=true∧t01.excs p.1 116=true∧((kd01 p.1).filter id).length = 1:=by
 simp only [L01,List.mem_cons,List.not_mem_nil,or_false] at mp
 rcases mp with rfl | rfl | rfl | rfl | rfl | rfl | rfl | rfl | rfl <;> exact ⟨rfl,rfl,rfl,rfl⟩
end
end Pl
namespace Pl
open Fx K
theorem s_01 : PySem.PyData.strOk (PySem.Str.ofString "some")=true∧PySem.PyData.strOk (PySem.Str.ofString "x")=true:=by decide +kernel
section
variable {n : Nat} {h h' : MH} {a : Val}
theorem dr01 (d : D) (m : Int) (hm : 0 < m) (hm2 : m < 1000000) : ∃ (k : Nat) (d' : D),(k : Int) < m∧∀ n h,Fx.call t01 (n + 1) (.fn zby) [.own (D3 d),.val (.int m)] h = .ok (.int (k : Nat)) [.own (D3 d'),.val (.int m)] h:=by
 have r:=drw_lt (d:=d) (m:=m) (by omega)
 refine ⟨(drw d m).1.toNat,(drw d m).2,by omega,fun n h=>?_⟩
 have e:=sp_draw (T:=t01) (n:=n) (h:=h) rfl (d:=d) (m:=m) (by omega) (by omega)
 rw [e,Int.toNat_of_nonneg r.1]
def obL (k : Nat) : List Val:=[.int ((10 : Int) ^ (11 : Nat) - (k : Nat)),.str "some",.tup false [.int (k : Nat),.str "x"],.none,.tup false [.tup false [.int 1,.bool true],.tup false [.int (k : Nat),.bool false]],.int (0 - (k : Nat))]
theorem obL_ok (k : Nat) : ∀ a∈obL k,pvOk a=true∧dep a≤2∧∀ h,zbN h a=a:=by
 obtain ⟨s1,s2⟩:=s_01
 intro a m
 simp only [obL,List.mem_cons,List.not_mem_nil,or_false] at m
 rcases m with rfl | rfl | rfl | rfl | rfl | rfl
 ·exact ⟨rfl,Nat.zero_le _,fun _=>rfl⟩
 ·exact ⟨s1,Nat.zero_le _,fun _=>rfl⟩
 ·refine ⟨?_,(by show max 0 (max 0 0) + 1≤2; decide),fun _=>rfl⟩
  show (decide (2≤1000000) && (true && (PySem.PyData.strOk (PySem.Str.ofString "x") && true)))=true
  rw [s2]; rfl
 ·exact ⟨rfl,Nat.zero_le _,fun _=>rfl⟩
 ·exact ⟨rfl,(by show max (max 0 (max 0 0) + 1) (max (max 0 (max 0 0) + 1) 0) + 1≤2; decide),fun _=>rfl⟩
 ·exact ⟨rfl,Nat.zero_le _,fun _=>rfl⟩
theorem sp_object (d : D) : ∃ (a : Val) (d' : D),pvOk a=true∧dep a≤2∧(∀ h,zbN h a=a)∧∀ n h,Fx.call t01 (n + 2) (.fn 91) [.own (D3 d)] h = .ok a [.own (D3 d')] h:=by
 obtain ⟨k1,d1,l1,e1⟩:=dr01 d 5 (by omega) (by omega)
 obtain ⟨k2,d2,l2,e2⟩:=dr01 d1 6 (by omega) (by omega)
 have l6 : (obL k1).length = 6:=rfl
 have hk : k2 < (obL k1).length:=by omega
 obtain ⟨o1,o2,o3⟩:=obL_ok k1 ((obL k1)[k2]) (List.getElem_mem hk)
 refine ⟨(obL k1)[k2],d2,o1,o2,o3,fun n h=>?_⟩
 have e1:=e1 n h
 have e2:=e2 n h
 have ls : t01.lent zby = [0]:=rfl
 have it : za5 .item [.lst (obL k1),.int (k2 : Nat)]=some ((obL k1)[k2]):=by
  have ix : ixAt (obL k1).length ((k2 : Nat) : Int)=some k2:=by
   unfold ixAt
   rw [if_pos (by omega),if_pos (by omega)]; rfl
  show (ixAt (obL k1).length _).bind _ = _
  rw [ix]
  exact List.getElem?_eq_getElem hk
 unfold obL at it
 have pw : za5 .pow [.int 10,.int 11]=some (.int ((10 : Int) ^ (11 : Nat))):=rfl
 refine call_e (d:=K01.zfw) rfl rfl rfl rfl rfl ?_
 simp only [K01.zfw]
 simp! [-zki,-po_pow,ls,e1,e2,pw]
 simp! [-zki,it]
 rfl
theorem law01 {ns : List Int} (hl : ns.length≤63) : ∃ outs h',Fx.call t01 (n + 16) (.fn 90) [.val (.lst (ns.map .int))] h = .ok (.bool true) outs h':=by
 suffices z : ∃ v outs h',Fx.call t01 (n + 16) (.fn 90) [.val (.lst (ns.map .int))] h = .ok v outs h'∧v = .bool true by
  obtain ⟨v,outs,h',e,rfl⟩:=z
  exact ⟨outs,h',e⟩
 have q1 : t01.lent zeD = []:=rfl
 have q2 : t01.lent l_object = [0]:=rfl
 have q3 : t01.lent l_pairs = []:=rfl
 have q4 : t01.lent znQ = []:=rfl
 have mn : (if (4 : Int) < ((ns.map Val.int).length : Int) then (4 : Int) else ((ns.map Val.int).length : Int))=((min ns.length 4 : Nat) : Int):=by
  rw [List.length_map]; split <;> omega
 have e0 : (2 : Int) + ((min ns.length 4 : Nat) : Int)=((2 + min ns.length 4 : Nat) : Int):=by omega
 have f1 : fits ((2 + min ns.length 4 : Nat) : Int)=true:=fits_nat (by omega)
 refine call_q (d:=K01.zq9) rfl rfl rfl rfl rfl ?_
 simp only [K01.zq9]
 simp! [mn,e0,rangeK_1 f1,range_0]
 refine for_nx (I:=fun pre σ h'=>∃ s1 s2 s3 s4 s5 s6 s7,σ = [.val (.lst (ns.map .int)),s1,s2,s3,s4,s5,s6,s7,.un,.un]∧(okS (some s1)=true∧okS (some s2)=true∧okS (some s3)=true∧okS (some s4)=true∧okS (some s5)=true∧okS (some s6)=true∧okS (some s7)=true)∧(zcf s1=true∧zcf s2=true∧zcf s3=true∧zcf s4=true∧zcf s5=true∧zcf s6=true∧zcf s7=true)) ?_ ?_ ?_
 ·exact ⟨_,_,_,_,_,_,_,rfl,⟨rfl,rfl,rfl,rfl,rfl,rfl,rfl⟩,⟨rfl,rfl,rfl,rfl,rfl,rfl,rfl⟩⟩
 ·rintro pre t post σ h' e ⟨s1,s2,s3,s4,s5,s6,s7,rfl,⟨o1,o2,o3,o4,o5,o6,o7⟩,⟨p1,p2,p3,p4,p5,p6,p7⟩⟩
  obtain ⟨d,es⟩:=sp_source (T:=t01) (n:=n + 14) (h:=h') rfl (ns:=ns) (t:=t)
  have isl : isLD (D3 d)=true:=rfl
  obtain ⟨a,d',pv,dp,de,eo⟩:=sp_object d
  have eo:=eo (n + 13)
  have ep:=fun h=>sp_pairs (n:=n + 14) (h:=h) (a:=a) de
  simp! [q1,q2,q3,es,isl,eo,ep,de,o1,o2,o3,o4,o5,o6,o7,p1,p2,p3,p4,p5,p6,p7]
  refine for_nx (enc:=pr01 a) (I:=fun pre σ h2=>∃ s4 s5 s6 s7,σ = [.val (.lst (ns.map .int)),.val (.int (t : Nat)),.own (D3 d'),.val a,s4,s5,s6,s7,.un,.un]∧(okS (some s4)=true∧okS (some s5)=true∧okS (some s6)=true∧okS (some s7)=true)∧(zcf s4=true∧zcf s5=true∧zcf s6=true∧zcf s7=true)∧h2=h') ?_ ?_ ?_
  ·exact ⟨_,_,_,_,rfl,⟨o4,o5,o6,o7⟩,⟨p4,p5,p6,p7⟩,rfl⟩
  ·rintro pre2 p post2 σ h2 e2 ⟨s4,s5,s6,s7,rfl,⟨o4,o5,o6,o7⟩,⟨p4,p5,p6,p7⟩,rfl⟩
   have mp : p∈L01:=pre_mem e2
   obtain ⟨_,x1,x2,x3⟩:=sp_fld (n:=0) (h:=h2) (a:=a) mp
   have fl:=fun h=>(sp_fld (n:=n + 14) (h:=h) (a:=a) mp).1
   have kn:=fun h=>zn5 (n:=n + 14) (h:=h) (f:=p.2.1) (as:=[a]) x3
   have l2 : [Val.exc p.1 p.2.1 [a],.exc p.1 p.2.1 [a]] = [(),()].map (fun _=>Val.exc p.1 p.2.1 [a]):=rfl
   have cs : ∀ (σ : Fr) (h : MH),callFK (Fx.call t01 (n + 15)) zbQ [a,a] σ h = .ok (.bool true) σ h:=fun σ h=>callF_same (T:=t01) (n:=n + 14) (σ:=σ) (h:=h) rfl (dd_pv (zqy pv)) (dd_pv (zqy pv)) pv (by omega)
   simp! [o4,o5,o6,o7,p4,p5,p6,p7]
   rw [l2]
   refine for_nx (enc:=fun _ : Unit=>Val.exc p.1 p.2.1 [a]) (I:=fun pre σ h3=>∃ s7,σ = [.val (.lst (ns.map .int)),.val (.int (t : Nat)),.own (D3 d'),.val a,.val (.exc p.1 p.2.1 [a]),.val (.exc p.1 p.2.1 [a]),.val (.clo p.2.2 []),s7,.un,.un]∧okS (some s7)=true∧zcf s7=true∧h3=h2) ?_ ?_ ?_
   ·exact ⟨_,rfl,o7,p7,rfl⟩
   ·rintro pre3 u post3 σ h3 e3 ⟨s7,rfl,o7,p7,rfl⟩
    have n1 : za5 .ne [.int 1,.int 1]=some (.bool false):=rfl
    simp! [-po_ne,q4,o7,p7,zrm,isxK_a,x1,x2,kn,n1,de_exc,de,fl,ev_callFn,cs,Bool.not_true]
    exact ⟨_,rfl,rfl,rfl⟩
   ·rintro σ h3 ⟨s7,rfl,o7,p7,rfl⟩
    simp! [o7,p7]
    refine ⟨_,_,_,_,rfl,?_⟩
    exact ⟨⟨rfl,rfl,rfl,o7⟩,rfl,rfl,rfl,p7⟩
  ·rintro σ h2 ⟨s4,s5,s6,s7,rfl,⟨o4,o5,o6,o7⟩,⟨p4,p5,p6,p7⟩,rfl⟩
   simp! [o4,o5,o6,o7,p4,p5,p6,p7]
   exact ⟨_,_,_,_,_,_,_,rfl,⟨rfl,rfl,rfl,o4,o5,o6,o7⟩,⟨rfl,rfl,rfl,p4,p5,p6,p7⟩⟩
 ·rintro σ h' ⟨s1,s2,s3,s4,s5,s6,s7,rfl,⟨o1,o2,o3,o4,o5,o6,o7⟩,⟨p1,p2,p3,p4,p5,p6,p7⟩⟩
  have k1:=fun h=>zn5 (n:=n + 14) (h:=h) (c:=101) (f:=0) (as:=[]) rfl
  have k2:=fun h=>zn5 (n:=n + 14) (h:=h) (c:=111) (f:=0) (as:=[]) rfl
  have a1 : t01.excs zcx zcI=false:=rfl
  have a2 : t01.excs zcx zdM=false:=rfl
  have a3 : t01.excs zcx zgG=true:=rfl
  have a4 : t01.excs zcx zeW=false:=rfl
  have a5 : t01.excs zcx zdZ=false:=rfl
  have a6 : t01.excs zdN zcI=true:=rfl
  have n1 : za5 .eq [.int 1,.int 1]=some (.bool true):=rfl
  simp! [-po_eq,q4,o1,o2,o3,o4,o5,o6,o7,p1,p2,p3,p4,p5,p6,p7,ev_mkx0n,zrm,isxK_a,a1,a2,a3,a4,a5,a6,k1,k2,n1,de_exc,Bool.not_true]
end
theorem plain_k01 (ns : List Int) (hl : ns.length≤63) : ∃ outs h',Fx.call K01.tbl 40 (.fn 90) [.val (.lst (ns.map .int))] ⟨[],[]⟩ = .ok (.bool true) outs h':=law01 (n:=24) hl
end Pl
end
end
theorem PySem.Challenge.cw_fallways_k01_errors_made_holds : PySem.Challenge.rw_fallways_k01_errors_made.Holds :=
 k01_holds fun ns hl _=>Pl.plain_k01 ns hl
