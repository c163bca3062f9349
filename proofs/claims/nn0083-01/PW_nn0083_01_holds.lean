import PyProof.Rows.All
import Wide.All
import OpenK.AllK
import Wide.FinOn
import PySem.Challenge.RW_nn0083_01
set_option Elab.async false
open PySem PySem.W PySem.Calls PyProof.Rows
set_option maxRecDepth 100000
set_option autoImplicit false
set_option linter.unusedVariables false
set_option compiler.extract_closed false
set_option backward.match.sparseCases false
set_option genSizeOf false
set_option bootstrap.genMatcherCode false
set_option hygiene false
set_option genInjectivity false
namespace Mine
section
set_option tactic.hygienic false
theorem ffE {P:Prop} (h:false=true):P:=absurd h Bool.false_ne_true
theorem tfE {P:Prop} (h:true=false):P:=absurd h.symm Bool.false_ne_true
theorem noE {α:Type} {x:α} {P:Prop} (h:none=some x):P:=absurd h nofun
@[reducible] noncomputable def pp (l c d:Nat):Pos:=⟨l,c,l,d⟩
inductive AV where
 | none|bool (b:Bool)|int (i:Int)|str (x:Str)|byt (b:Array UInt8)
 | tup (l:List AV)|lst (l:List AV)
 | inst (k:Nat) (fs:List AV)
 | ref (a:Addr)|fn (j:Nat)|blt (n:String)|typ (n:String)|rng (lo hi:Int)
noncomputable abbrev pw:Program:=PySem.Challenge.pw_nn0083_01
noncomputable def st (i:Nat):Stmt:=(pw.main.body[i]?).getD (.Pass ⟨0,0,0,0⟩)
noncomputable def nmS:Stmt→Str
 | .FunctionDef n ..=>n
 | .ClassDef n ..=>n
 | _=>""
noncomputable def prS:Stmt→Arguments
 | .FunctionDef _ p ..=>p
 | _=>⟨[],[],none,[],[],none,[]⟩
noncomputable def bdS:Stmt→List Stmt
 | .FunctionDef _ _ b ..=>b
 | .ClassDef _ _ _ b ..=>b
 | _=>[]
noncomputable def scS:Stmt→Scope
 | .FunctionDef _ _ _ _ _ _ s ..=>s
 | _=>⟨.module,[],false,false,[]⟩
noncomputable def mth (i j:Nat):Stmt:=((bdS (st i))[j]?).getD (.Pass ⟨0,0,0,0⟩)
noncomputable def fnIdx:List Nat:=[5,6,7,8,9,10,11,14,25,26,27,28,29,30,31,33,34,42,43,44,50,52,53,54,55,56,60,63,64,65,70,71,80,81,82,84,89,90,91,92,93,94,96,97,99,100,101,102,103,104,105,107,108,110,111,112,113,114,115,116,117,118,119,122,123]
noncomputable def fcIdx:List Nat:=[106,109]
noncomputable def ftIdx:List Nat:=[120,121,124]
noncomputable def fnAll:List Nat:=fnIdx++fcIdx++ftIdx
noncomputable def giTab:List (Str × Int):=[("STACK",4),("RSP",4),("RBP",5)]
noncomputable def gsTab:List (Str × Str):=[("CONDITIONS","o no b ae e ne be a s ns p np l ge le g"),("NAMES_64","rax rcx rdx rbx rsp rbp rsi rdi"),("TRAPS","ud2 int int3 syscall cpuid")]
noncomputable def blNames:List Str:=["range","int","list","tuple","bytes","enumerate","zip","sum","abs","len"]
noncomputable def clsIdx:List Nat:=[24,41,49,51,58,73,74,75,76,77,78]
noncomputable def at24:List (Nat × Str):=[(24,"cf"),(24,"pf"),(24,"af"),(24,"zf"),(24,"sf"),(24,"of"),(24,"df")]
noncomputable def at41:List (Nat × Str):=[(41,"name"),(41,"kind"),(41,"number"),(41,"size")]
noncomputable def at49:List (Nat × Str):=[(49,"held")]
noncomputable def at51:List (Nat × Str):=[(51,"iset"),(51,"regs"),(51,"xmm"),(51,"flags"),(51,"memory"),(51,"rip"),(51,"begin"),(51,"segments"),(51,"is_halted")]
noncomputable def at58:List (Nat × Str):=[(58,"instruction"),(58,"length"),(58,"form"),(58,"prefixes")]
noncomputable def at74:List (Nat × Str):=[(74,"kind"),(74,"register")]
noncomputable def at75:List (Nat × Str):=[(75,"kind"),(75,"worth"),(75,"name")]
noncomputable def at76:List (Nat × Str):=[(76,"kind"),(76,"worth"),(76,"name")]
noncomputable def at77:List (Nat × Str):=[(77,"kind"),(77,"base"),(77,"index"),(77,"scale"),(77,"worth"),(77,"size"),(77,"segment"),(77,"name")]
noncomputable def at78:List (Nat × Str):=[(78,"name"),(78,"operands"),(78,"prefix")]
noncomputable def atTab:List (Nat × Str):=at24++at41++at49++at51++at58++at74++at75++at76++at77++at78
noncomputable def mtTab:List (Nat × Nat):=[(49,1),(49,2),(49,3),(49,4),(49,5),(51,1),(51,2),(51,3),(51,5),(51,6),(51,7),(51,8),(51,9),(51,10),(51,11)]
noncomputable def iniIdx:List Nat:=[24,41,49,51,58,74]
noncomputable def indTab:List (Nat × List AV):=[(75,[.str ""]),(76,[.str ""]),(77,[.int 0,.str "",.str ""]),(78,[.str ""])]
noncomputable def isVal:Option CFound→Value→Bool
 | some (.val v),u=>v==u
 | _,_=>false
noncomputable def clsAttrIn (K:Frag) (C:Addr) (x:Str) (f:Addr):Bool:=specialIn K (.ref C) "__getattribute__"==some (some (.builtin "type.__getattribute__"))&&readsIn K C (.type "type")&&isVal (findCls K (.ref C) (.type "type") x) (.ref f)&&keepIn K (.ref f)
noncomputable def iniIn (K:Frag) (C f:Addr):Bool:=makesIn K C&&(findIn K (.ref C) "__init__"==some (some (.ref f)))&&(typeIn K (.ref f)==some (.type "function"))
noncomputable def attrIn (K:Frag) (C:Addr) (x:Str):Bool:=findIn K (.ref C) "__getattribute__"==some (some (.builtin "object.__getattribute__"))&&findIn K (.ref C) x==some none&&(clsIn K C).any (·.hasDict)
noncomputable def methIn (K:Frag) (C:Addr) (x:Str) (f:Addr):Bool:=findIn K (.ref C) "__getattribute__"==some (some (.builtin "object.__getattribute__"))&&findIn K (.ref C) "__getattr__"==some none&&findIn K (.ref C) x==some (some (.ref f))&&typeIn K (.ref f)==some (.type "function")
noncomputable def storeIn (K:Frag) (C:Addr) (x:Str):Bool:=findIn K (.ref C) "__setattr__"==some (some (.builtin "object.__setattr__"))&&plainOver K C&&takerIn K C x==some none&&(clsIn K C).any (·.hasDict)
noncomputable def cT:Nat→Addr
 | 24=>202|41=>328|49=>450|51=>567|58=>630|73=>742|74=>777|75=>811|76=>852|77=>905|78=>958|_=>0
noncomputable def tT:Nat→Addr
 | 120=>1203|121=>1210|124=>1231|_=>0
noncomputable def tabA:List Addr:=[1203,1210,1231]
noncomputable def mtA:List ((Nat × Nat) × Addr):=[((49,1),381),((49,2),388),((49,3),395),((49,4),402),((49,5),409),((51,1),482),((51,2),489),((51,3),496),((51,5),508),((51,6),515),((51,7),522),((51,8),529),((51,9),536),((51,10),543),((51,11),550)]
noncomputable def inA:List (Nat × Addr):=[(24,143),(41,290),(49,374),(51,475),(58,620),(74,760)]
noncomputable def idA:List ((Nat × List AV) × Addr):=[((75,[.str ""]),794),((76,[.str ""]),828),((77,[.int 0,.str "",.str ""]),869),((78,[.str ""]),922)]
noncomputable def moA:Addr:=414
noncomputable def opA:Addr:=718
noncomputable def clA:List Addr:=[2,202,201,328,327,450,449,567,566,630,629,742,741,777,776,811,810,852,851,905,904,958,957]
noncomputable def hkA:List Addr:=clA++mtA.map (·.2)++inA.map (·.2)++idA.map (·.2)++[moA,opA]
noncomputable def hkK (h:Heap):Frag:=hkA.map fun a=>(a,(h.get? a).getD default)
noncomputable def isNone:Value→Bool
 | .none=>true
 | _=>false
noncomputable def vIs:Value→AV→Bool
 | .str x _,.str y=>x==y
 | .int i _,.int j=>i==j
 | _,_=>false
noncomputable def vsAre:List Value→List AV→Bool
 | [],[]=>true
 | v::vs,d::ds=>vIs v d&&vsAre vs ds
 | _,_=>false
noncomputable def dflOk (h:Heap) (v:Value) (ds:List AV):Bool:=match v with
 | .ref T=>(match h.get? T with
  | some ⟨_,_,.seq items _,_⟩=>vsAre items.toList ds
  | _=>false)
 | _=>false
noncomputable def fnOk (h:Heap) (a:Addr) (dfl:Value→Bool):Bool:=match h.get? a with
 | some ⟨_,_,.func fd,_⟩=>h.codeRecOk fd.code fd.qualname&&fd.globals==mainGlobals&&fd.builtins==builtinsNs&&fd.closure.isEmpty&&dfl fd.defaults
 | _=>false
noncomputable def fnPr (h:Heap) (a:Addr):Option (Arguments × FuncBody × Scope):=match h.get? a with
 | some ⟨_,_,.func fd,_⟩=>some (fd.params,fd.body,fd.scope)
 | _=>none
noncomputable def prAt (i j:Nat):Option (Arguments × FuncBody × Scope):=some (prS (mth i j),.stmts (bdS (mth i j)),scS (mth i j))
noncomputable def isRef (a:Addr):Option Value→Bool
 | some (.ref b)=>b==a
 | _=>false
noncomputable def aN0:List Str:=["name","kind","number","size","cf","pf","af","zf","sf","of","df","held","iset","regs","xmm","flags","memory"]
noncomputable def aN1:List Str:=["rip","begin","segments","is_halted","instruction","length","form","prefixes","register","worth","base","index","scale","segment","operands","prefix"]
noncomputable def aNs:List Str:=aN0++aN1
noncomputable def aN (t:Nat):Str:=aNs.getD t ""
noncomputable def layT:List (Nat × List Nat):=[(24,[4,5,6,7,8,9,10]),(41,[0,1,2,3]),(49,[11]),(51,[12,13,14,15,16,17,18,19,20]),(58,[21,22,23,24]),(74,[1,25]),(75,[1,26,0]),(76,[1,26,0]),(77,[1,27,28,29,26,3,30,0]),(78,[0,31,32])]
noncomputable def lay (k:Nat):List Nat:=(layT.lookup k).getD []
noncomputable def fN (k:Nat):List Str:=(lay k).map aN
noncomputable def hk1 (h:Heap):Bool:=hkA.all (fun a=>(h.get? a).isSome)&&h.isNs mainGlobals&&clsIdx.all (fun i=>isRef (cT i) (h.nsMap mainGlobals (nmS (st i)))&&keepIn (hkK h) (.ref (cT i)))
noncomputable def hk2 (h:Heap):Bool:=atTab.all fun p=>attrIn (hkK h) (cT p.1) p.2&&storeIn (hkK h) (cT p.1) p.2
noncomputable def hk3 (h:Heap):Bool:=mtA.all (fun p=>methIn (hkK h) (cT p.1.1) (nmS (mth p.1.1 p.1.2)) p.2&&keepIn (hkK h) (.ref p.2)&&fnOk h p.2 isNone) &&
 (methIn (hkK h) (cT 49) (nmS (mth 49 6)) moA&&keepIn (hkK h) (.ref moA)&&fnOk h moA isNone)
noncomputable def hk4 (h:Heap):Bool:=inA.all (fun p=>iniIn (hkK h) (cT p.1) p.2&&fnOk h p.2 isNone)&&idA.all (fun p=>iniIn (hkK h) (cT p.1.1) p.2&&fnOk h p.2 fun v=>dflOk h v p.1.2)&&(clsAttrIn (hkK h) (cT 73) "__init__" opA&&fnOk h opA isNone)
noncomputable def hk6 (h:Heap):Bool:=[((120:Nat),(1203:Addr)),(121,1210),(124,1231)].all fun p=>h.tab0Ok (nmS (st p.1))&&match h.nsMap mainGlobals (nmS (st p.1)) with
 | some (.ref a)=>(match h.get? a with
  | some ⟨_,_,.func fd,_⟩=>(match fd.code with
   | .ref cc=>(match h.get? cc with
    | some ⟨_,_,.fields vs,_⟩=>isRef p.2 (some (vs.getD 11 .none))
    | _=>false)
   | _=>false)
  | _=>false)
 | _=>false
noncomputable def vIsO (v:Option Value) (d:AV):Bool:=match v with
 | some v=>vIs v d
 | none=>false
noncomputable def hk7 (h:Heap):Bool:=giTab.all (fun p=>vIsO (h.nsMap mainGlobals p.1) (.int p.2))&&gsTab.all (fun p=>vIsO (h.nsMap mainGlobals p.1) (.str p.2))&&blNames.all (fun x=>(h.nsMap mainGlobals x).isNone)&&(h.get? sysModules).isSome&&noTabs (hkK h)
noncomputable def hkP (h:Heap):List (Option (Arguments × FuncBody × Scope)):=(mtA.map fun p=>fnPr h p.2)++(inA.map fun p=>fnPr h p.2)++(idA.map fun p=>fnPr h p.2)++[fnPr h moA,fnPr h opA]
noncomputable def hkV:List (Option (Arguments × FuncBody × Scope)):=(mtA.map fun p=>prAt p.1.1 p.1.2)++(inA.map fun p=>prAt p.1 0)++(idA.map fun p=>prAt p.1.1 0)++[prAt 49 6,prAt 73 0]
noncomputable def hkAll (h:Heap):Bool:=hk1 h&&(hk2 h&&(hk3 h&&(hk4 h&&(hk6 h&&hk7 h))))
noncomputable def recAt (i:Nat):DefRec:=⟨nmS (st i),prS (st i),bdS (st i),scS (st i),⟨0,0,0,0⟩⟩
noncomputable def hkF (h:Heap):List (Option FnShape):=fnAll.map fun i=>h.shapeAt mainGlobals (nmS (st i))
noncomputable def hkG:List (Option FnShape):=fnAll.map fun i=>some (recAt i).shape
inductive Said (h:Heap):Prop
 | mk (h0:Heap) (a:hkAll h0=true) (b:hkP h0=hkV) (c:tabA.map h0.get?=(tabA.map fun _=>some (tabObj #[]))) (f:hkF h0=hkG) (d:∀ b o,h0.get? b=some o→h.get? b=some o)
noncomputable def myHook:Hook where
 α:=Bool × List (Option (Arguments × FuncBody × Scope)) × List (Option Obj) × List (Option FnShape)
 obs:=fun s=>(hkAll s.heap,hkP s.heap,tabA.map s.heap.get?,hkF s.heap)
 val:=fun _=>(true,hkV,(tabA.map fun _=>some (tabObj #[])),hkG)
 says:=fun _ h=>Said h
 of:=fun w s x=>by
  obtain ⟨a,x⟩:=Prod.mk.inj x
  obtain ⟨b,x⟩:=Prod.mk.inj x
  obtain ⟨c,f⟩:=Prod.mk.inj x
  exact ⟨s.heap,a,b,c,f,fun _ _ e=>e⟩
 keeps:=fun w h h' ⟨h0,a,b,c,f,d⟩ k=>⟨h0,a,b,c,f,fun x o e=>k _ _ (d x o e)⟩
end
section
set_option tactic.hygienic false
structure Bt where
 prog:Program
 w:World
 hB:Heap
 K:Frag
 mg:Str→Option Value
noncomputable abbrev Bt.P (Q:Bt):Params:=Q.w.params
noncomputable abbrev FH:=Addr→Option Obj
mutual
inductive V (Q:Bt) (F:FH):Value→AV→Prop
 | none:V Q F .none .none
 | bool (b:Bool):V Q F (.bool b) (.bool b)
 | int (i:Int) (t:Tok):V Q F (.int i t) (.int i)
 | str (x:Str) (t:Tok):V Q F (.str x t) (.str x)
 | byt (b:Array UInt8) (t:Tok):V Q F (.bytes b t) (.byt b)
 | tup {a:Addr} {vs:Array Value} {n:Nat} {l:List AV} (e:F a=some { cls:=.type "tuple",data:=.seq vs n }) (h:VL Q F vs.toList l):V Q F (.ref a) (.tup l)
 | lst {a:Addr} {vs:Array Value} {n:Nat} {l:List AV} (e:F a=some (PySem.W.listOf vs n)) (h:VL Q F vs.toList l):V Q F (.ref a) (.lst l)
 | inst {a dx:Addr} {k:Nat} {es:List DictEntry} {n:Nat} {fs:List AV} (e:F a=some (instObj (cT k) dx)) (e':F dx=some (dictOf es n)) (h:VF Q F es (fN k) fs):V Q F (.ref a) (.inst k fs)
 | fn {a:Addr} {j:Nat} (hj:fnAll.elem j=true) (e:Q.mg (nmS (st j))=some (.ref a)):V Q F (.ref a) (.fn j)
 | ref (a:Addr):V Q F (.ref a) (.ref a)
 | blt (n:String):V Q F (.builtin n) (.blt n)
 | typ (n:String):V Q F (.type n) (.typ n)
 | rng {a:Addr} {lo hi:Int} {t u v:Tok} (e:F a=some { cls:=.type "range",data:=.fields #[.int lo t,.int hi u,.int 1 v] }):V Q F (.ref a) (.rng lo hi)
inductive VL (Q:Bt) (F:FH):List Value→List AV→Prop
 | nil:VL Q F [] []
 | cons {v:Value} {d:AV} {vs:List Value} {ds:List AV} (h:V Q F v d) (r:VL Q F vs ds):VL Q F (v::vs) (d::ds)
inductive VF (Q:Bt) (F:FH):List DictEntry→List Str→List AV→Prop
 | nil {ns:List Str}:VF Q F [] ns []
 | cons {x:Str} {t:Tok} {v:Value} {d:AV} {es:List DictEntry} {ns:List Str} {fs:List AV} (h:V Q F v d) (r:VF Q F es ns fs):VF Q F (⟨PyData.keyHash Q.P x,.str x t,v⟩::es) (x::ns) (d::fs)
end
noncomputable def FLe (F F':FH):Prop:=∀ a o,F a=some o→F' a=some o
theorem FLe.refl (F:FH):FLe F F:=fun _ _ e=>e
theorem FLe.trans {F F' F'':FH} (x:FLe F F') (y:FLe F' F''):FLe F F'':=fun a o e=>y a o (x a o e)
theorem V.mono {Q:Bt} {F F':FH} (k:FLe F F'):∀ {v:Value} {d:AV},V Q F v d→V Q F' v d:=by
 intro v d h
 refine V.rec (Q:=Q) (F:=F) (motive_1:=fun v d _=>V Q F' v d) (motive_2:=fun vs ds _=>VL Q F' vs ds) (motive_3:=fun es ns fs _=>VF Q F' es ns fs)
  .none .bool .int .str .byt ?_ ?_ ?_ .fn .ref .blt .typ ?_ .nil ?_ .nil ?_ h
 ·intro a vs n l e _ ih;exact .tup (k _ _ e) ih
 ·intro a vs n l e _ ih;exact .lst (k _ _ e) ih
 ·intro a dx k' es n fs e e' _ ih;exact .inst (k _ _ e) (k _ _ e') ih
 ·intro a lo hi t u v e;exact .rng (k _ _ e)
 ·intro v d vs ds _ _ ih1 ih2;exact .cons ih1 ih2
 ·intro x t v d es ns fs _ _ ih1 ih2;exact .cons ih1 ih2
theorem VL.mono {Q:Bt} {F F':FH} (k:FLe F F') {vs:List Value} {ds:List AV} (h:VL Q F vs ds):VL Q F' vs ds:=by
 induction ds generalizing vs with
 | nil=>cases h;exact .nil
 | cons d ds ih=>cases h with|cons h r=>exact .cons (h.mono k) (ih r)
theorem VF.mono {Q:Bt} {F F':FH} (k:FLe F F') {fs:List AV}:∀ {es:List DictEntry} {ns:List Str},VF Q F es ns fs→VF Q F' es ns fs:=by
 induction fs with
 | nil=>intro es ns h;cases h;exact .nil
 | cons d ds ih=>intro es ns h;cases h with|cons h r=>exact .cons (h.mono k) (ih r)
inductive VK {α:Type} (Q:Bt) (F:FH):List (α × Value)→List (α × AV)→Prop
 | nil:VK Q F [] []
 | cons {x:α} {v:Value} {d:AV} {vs:List (α × Value)} {ds:List (α × AV)} (h:V Q F v d) (r:VK Q F vs ds):VK Q F ((x,v)::vs) ((x,d)::ds)
theorem VK.mono {α:Type} {Q:Bt} {F F':FH} (k:FLe F F') {vs:List (α × Value)} {ds:List (α × AV)} (h:VK Q F vs ds):VK Q F' vs ds:=by
 induction h with
 | nil=>exact .nil
 | cons h _ ih=>exact .cons (h.mono k) ih
inductive VO (Q:Bt) (F:FH):Option Value→Option AV→Prop
 | none:VO Q F .none .none
 | some {v:Value} {d:AV} (h:V Q F v d):VO Q F (.some v) (.some d)
theorem VO.mono {Q:Bt} {F F':FH} (k:FLe F F') {v:Option Value} {d:Option AV} (h:VO Q F v d):VO Q F' v d:=by
 cases h with
 | none=>exact .none
 | some h=>exact .some (h.mono k)
noncomputable def tgtOk:Bool→Expr→Bool
 | false,.Name ..=>true
 | true,.Tuple ..=>true
 | _,_=>false
inductive ItV (Q:Bt) (F:FH) (h:Heap):Bool→Value→AV→Prop
 | val {v:Value} {d:AV} (x:V Q F v d):ItV Q F h false v d
 | tup {T:Addr} {vals:Array Value} {ds:List AV} (e:h.IsTuple T vals) (x:VL Q F vals.toList ds):ItV Q F h true (.ref T) (.tup ds)
 | frz {v:Value} {ds:List AV} (x:V Q F v (.tup ds)):ItV Q F h true v (.tup ds)
theorem ItV.mono {Q:Bt} {F F':FH} {h:Heap} (k:FLe F F') {b:Bool} {v:Value} {d:AV} (x:ItV Q F h b v d):ItV Q F' h b v d:=by
 cases x with
 | val x=>exact .val (x.mono k)
 | tup e x=>exact .tup e (x.mono k)
 | frz x=>exact .frz (x.mono k)
structure Wd where
 F:FH
 own:Addr→Option Addr
inductive Cell where
 | lst (l:List AV)
 | inst (k:Nat) (fs:List AV)
 | sd (fs:List (Str × AV))
 | zd (m:Int→Option AV) (n:Nat)
 | cel (d:Option AV)
 | itr (tk:Bool) (l:List AV)
 | tab (q:Str)
 | fnc (params:Arguments) (body:FuncBody) (sc:Scope) (cl:List (Str × Addr))
inductive CdF (F:FH) (cv:Value) (q:Str):Prop
 | mk (c:Addr) (oc:Obj) (vs:Array Value) (t:Tok) (e:cv=.ref c) (f:F c=some oc) (d:oc.data=.fields vs) (r:vs[1]?=some (.str q t))
theorem CdF.mono {F F':FH} (k:FLe F F') {cv:Value} {q:Str} (x:CdF F cv q):CdF F' cv q:=let ⟨c,oc,vs,t,e,f,r1,r2⟩:=x;⟨c,oc,vs,t,e,k _ _ f,r1,r2⟩
theorem CdF.at {F:FH} {h:Heap} (k:∀ a o,F a=some o→h.get? a=some o) {cv:Value} {q:Str} (x:CdF F cv q):h.CodeRec cv q:=let ⟨c,oc,vs,t,e,f,r1,r2⟩:=x;⟨c,oc,vs,t,e,k _ _ f,r1,r2⟩
section
variable (Q:Bt)
inductive CLst (W:Wd) (h:Heap) (a:Addr) (l:List AV):Prop
 | mk (vs:Array Value) (n:Nat) (e:h.get? a=some (PySem.W.listOf vs n)) (v:VL Q W.F vs.toList l) (o:W.own a=some a)
inductive CInst (W:Wd) (h:Heap) (a:Addr) (k:Nat) (fs:List AV):Prop
 | mk (dx:Addr) (es:List DictEntry) (n:Nat) (e:h.get? a=some (instObj (cT k) dx)) (e':h.get? dx=some (dictOf es n)) (v:VF Q W.F es (fN k) fs) (o:W.own a=some a) (o':W.own dx=some a) (ne:dx≠a)
inductive CSd (W:Wd) (h:Heap) (a:Addr) (fs:List (Str × AV)):Prop
 | mk (kvs:List (Str × Value)) (e:h.DictOf (PySem.strKind Q.prog Q.w) a kvs) (v:VK Q W.F kvs fs) (o:W.own a=some a)
inductive CZd (W:Wd) (h:Heap) (a:Addr) (m:Int→Option AV) (n:Nat):Prop
 | mk (kvs:List (Int × Value)) (e:h.DictOf (intKind Q.prog Q.w) a kvs) (z:kvs.length≤n) (v:∀ k,VO Q W.F (valueAt kvs k) (m k)) (o:W.own a=some a)
inductive CCel (W:Wd) (h:Heap) (a:Addr) (d:AV):Prop
 | mk (v:Value) (e:h.IsCell a (some v)) (r:V Q W.F v d) (o:W.own a=some a)
inductive CItr (W:Wd) (h:Heap) (a:Addr) (tk:Bool) (l:List AV):Prop
 | mk (o:W.own a=some a) (fp wr:List Addr) (n:Nat) (P Md:Nat→Value→Heap→Prop) (St:Nat→Heap→Prop) (i:Nat) (hw:∀ A:Around,A.handled=none→∀ tgt,tgtOk tk tgt=true→∃ wr':List Addr,(∀ b∈wr',b∈wr)∧KTurns Q.prog Q.w A tgt a fp wr' n P Md St) (hs:∀ A:Around,A.handled=none→∀ i (s:Shared) (Qv:Value→Shared→Prop) (E:Value→Shared→Prop),St i s.heap→Qv (.ref a) s→wpAny (model Q.prog Q.w) A (pyIter (.ref a)) Qv E s) (hv:∀ i h,St i h→∀ b∈wr,∃ o,h.get? b=some o) (ha:a∈wr) (st:St i h) (hl:i+l.length=n)
   (h1:∀ b∈wr,W.own b=some a) (h2:∀ b∈fp,b∈wr∨(∃ o,W.F b=some o∧h.get? b=some o)) (h3:∀ j d,l[j]?=some d→∀ v h',P (i+j) v h'→ItV Q W.F h' tk v d)
inductive CTab (W:Wd) (h:Heap) (a:Addr) (q:Str):Prop
 | mk (ps:Array Value) (e:h.get? a=some (tabObj ps)) (t:TriplesOk ps.toList) (c:∀ pos cv,codeAmong pos ps.toList=some cv→CdF W.F cv q) (o:W.own a=some a)
inductive CFnc (W:Wd) (h:Heap) (a:Addr) (params:Arguments) (body:FuncBody) (sc:Scope) (cl:List (Str × Addr)):Prop
 | mk (o:Obj) (fd:FuncData) (e:h.get? a=some o) (d:o.data=.func fd) (c:CdF W.F fd.code fd.qualname) (e1:fd.params=params) (e2:fd.body=body) (e3:fd.scope=sc) (e4:fd.globals=mainGlobals) (e5:fd.builtins=builtinsNs) (e6:fd.closure=cl) (e7:fd.defaults=.none) (w:W.own a=some a)
noncomputable def CellAt (W:Wd) (h:Heap) (a:Addr):Cell→Prop
 | .lst l=>CLst Q W h a l
 | .inst k fs=>CInst Q W h a k fs
 | .sd fs=>CSd Q W h a fs
 | .zd m n=>CZd Q W h a m n
 | .cel none=>h.IsCell a none∧W.own a=some a
 | .cel (some d)=>CCel Q W h a d
 | .itr tk l=>CItr Q W h a tk l
 | .tab q=>CTab W h a q
 | .fnc params body sc cl=>CFnc W h a params body sc cl
noncomputable abbrev St:=List (Addr × Cell)
structure Inv (W:Wd) (σ:St) (h:Heap):Prop where
 frz:∀ a o,W.F a=some o→h.get? a=some o
 frzO:∀ a o,W.F a=some o→W.own a=none
 live:∀ a x,W.own a=some x→∃ o,h.get? a=some o
 cells:∀ p∈σ,CellAt Q W h p.1 p.2
 nd:(σ.map (·.1)).Nodup
 base:∀ a o,Q.hB.get? a=some o→h.get? a=some o∧W.own a=none
structure Ext (X:Option Addr) (W:Wd) (s:Shared) (W':Wd) (s':Shared):Prop where
 F:FLe W.F W'.F
 un:∀ b o,W.own b=none→s.heap.get? b=some o→W'.own b=none∧(W.F b=none→W'.F b=none)∧(∃ o',s'.heap.get? b=some o')∧(some b≠X→s'.heap.get? b=some o)
 gens:s'.gens=s.gens
 drawn:s'.drawn=s.drawn
 os:s'.os=s.os
end
theorem Ext.same {X:Option Addr} {W:Wd} {s s':Shared} (k:∀ b o,W.own b=none→s.heap.get? b=some o→(∃ o',s'.heap.get? b=some o')∧(some b≠X→s'.heap.get? b=some o)) (g:s'.gens=s.gens) (d:s'.drawn=s.drawn) (os:s'.os=s.os):Ext X W s W s':=
 ⟨FLe.refl _,fun b o e g=>⟨e,id,k b o e g⟩,g,d,os⟩
theorem Ext.refl (X:Option Addr) (W:Wd) (s:Shared):Ext X W s W s:=.same (fun _ o _ g=>⟨⟨o,g⟩,fun _=>g⟩) rfl rfl rfl
theorem Ext.trans {X:Option Addr} {W W' W'':Wd} {s s' s'':Shared} (x:Ext X W s W' s') (y:Ext X W' s' W'' s''):Ext X W s W'' s'':=
 ⟨x.F.trans y.F,fun b o e g=>by
  obtain ⟨o1,f1,⟨o',l1⟩,k1⟩:=x.un b o e g
  obtain ⟨o2,f2,l2,k2⟩:=y.un b o' o1 l1
  refine ⟨o2,fun z=>f2 (f1 z),l2,fun hX=>?_⟩
  have:=k1 hX
  rw [l1] at this;cases this
  exact k2 hX,y.gens.trans x.gens,y.drawn.trans x.drawn,y.os.trans x.os⟩
theorem Ext.wide {X:Option Addr} {W W':Wd} {s s':Shared} (x:Ext none W s W' s'):Ext X W s W' s':=
 ⟨x.F,fun b o e g=>let ⟨a,b,c,d⟩:=x.un b o e g;⟨a,b,c,fun _=>d nofun⟩,x.gens,x.drawn,x.os⟩
theorem Ext.keeps {X:Option Addr} {W:Wd} {s s':Shared} (k:∀ b o,s.heap.get? b=some o→s'.heap.get? b=some o) (g:s'.gens=s.gens) (d:s'.drawn=s.drawn) (os:s'.os=s.os):Ext X W s W s':=
 .same (fun b o _ e=>⟨⟨o,k b o e⟩,fun _=>k b o e⟩) g d os
theorem Ext.tok {X:Option Addr} (W:Wd) (s:Shared) (t:Nat):Ext X W s W { s with toks:=t }:=.keeps (fun _ _ e=>e) rfl rfl rfl
section
variable {Q:Bt} {W:Wd} {σ:St} {h:Heap}
theorem CellAt.keep {W':Wd} {h':Heap} {a:Addr} {c:Cell} (x:CellAt Q W h a c) (kF:FLe W.F W'.F) (ko:∀ b,W.own b=some a→W'.own b=some a) (k:∀ b o,W.own b=some a→h.get? b=some o→h'.get? b=some o) (kf:∀ b o,W.F b=some o→h'.get? b=some o):CellAt Q W' h' a c:=by
 cases c with
 | lst l=>obtain ⟨vs,n,e,v,o⟩:=x;exact ⟨vs,n,k _ _ o e,v.mono kF,ko _ o⟩
 | inst _ fs=>obtain ⟨dx,es,n,e,e',v,o,o',ne⟩:=x;exact ⟨dx,es,n,k _ _ o e,k _ _ o' e',v.mono kF,ko _ o,ko _ o',ne⟩
 | sd fs=>obtain ⟨kvs,⟨ob,es,ep,ho,r⟩,hv,o⟩:=x;exact ⟨kvs,⟨ob,es,ep,k _ _ o ho,r⟩,hv.mono kF,ko _ o⟩
 | zd m n=>obtain ⟨kvs,⟨ob,es,ep,ho,r⟩,hn,hv,o⟩:=x;exact ⟨kvs,⟨ob,es,ep,k _ _ o ho,r⟩,hn,fun j=>(hv j).mono kF,ko _ o⟩
 | cel d=>
  cases d with
  | none=>obtain ⟨⟨ob,e,r⟩,o⟩:=x;exact ⟨⟨ob,k _ _ o e,r⟩,ko _ o⟩
  | some d=>obtain ⟨v,⟨ob,e,r⟩,hv,o⟩:=x;exact ⟨v,⟨ob,k _ _ o e,r⟩,hv.mono kF,ko _ o⟩
 | itr tk l=>
  obtain ⟨o,fp,wr,n,P,Md,St,i,hw,hse,hv,ha,hst,hl,h1,h2,h3⟩:=x
  obtain ⟨_,_,T⟩:=hw {} rfl (if tk then .Tuple [] 0 default else .Name default default) (by cases tk<;>rfl)
  refine ⟨ko _ o,fp,wr,n,P,Md,St,i,hw,hse,hv,ha,T.frame i h h' hst fun b hb ob e=>?_,hl,fun b hb=>ko _ (h1 b hb),fun b hb=>?_,fun j d e v h' p=>(h3 j d e v h' p).mono kF⟩
  ·rcases h2 b hb with q|⟨o',q,e'⟩
   ·exact k b ob (h1 b q) e
   ·rw [e] at e';cases e';exact kf b ob q
  ·rcases h2 b hb with q|⟨o',q,e'⟩
   ·exact .inl q
   ·exact .inr ⟨o',kF _ _ q,kf b o' q⟩
 | tab q=>obtain ⟨ps,e,ht,hc,o⟩:=x;exact ⟨ps,k _ _ o e,ht,fun pos cv e=>(hc pos cv e).mono kF,ko _ o⟩
 | fnc params body sc cl=>obtain ⟨ob,fd,e,d,c,e1,e2,e3,e4,e5,e6,e7,o⟩:=x;exact ⟨ob,fd,k _ _ o e,d,c.mono kF,e1,e2,e3,e4,e5,e6,e7,ko _ o⟩
theorem CellAt.owned {a:Addr} {c:Cell} (x:CellAt Q W h a c):W.own a=some a:=by
 cases c with
 | lst l=>obtain ⟨_,_,_,_,o⟩:=x;exact o
 | inst _ fs=>obtain ⟨_,_,_,_,_,_,o,_⟩:=x;exact o
 | sd fs=>obtain ⟨_,_,_,o⟩:=x;exact o
 | zd m n=>obtain ⟨_,_,_,_,o⟩:=x;exact o
 | cel d=>cases d with
  | none=>exact x.2
  | some d=>obtain ⟨_,_,_,o⟩:=x;exact o
 | itr tk l=>exact x.1
 | tab q=>obtain ⟨_,_,_,_,o⟩:=x;exact o
 | fnc params body sc cl=>obtain ⟨_,_,_,_,_,_,_,_,_,_,_,_,o⟩:=x;exact o
theorem Inv.push (I:Inv Q W σ h) (o:Obj):Inv Q W σ (h.push o):=
 ⟨fun a x e=>Heap.get?_push_of_some _ (I.frz a x e),I.frzO,fun a x e=>(I.live a x e).imp fun _ e=>Heap.get?_push_of_some _ e,
  fun p hp=>(I.cells p hp).keep (FLe.refl _) (fun _ e=>e) (fun b o _ e=>Heap.get?_push_of_some _ e) fun b o e=>Heap.get?_push_of_some _ (I.frz b o e),I.nd,fun a x e=>⟨Heap.get?_push_of_some _ (I.base a x e).1,(I.base a x e).2⟩⟩
theorem Inv.keeps {h':Heap} (I:Inv Q W σ h) (k:∀ b o,h.get? b=some o→h'.get? b=some o):Inv Q W σ h':=
 ⟨fun a x e=>k _ _ (I.frz a x e),I.frzO,fun a x e=>(I.live a x e).imp fun _ e=>k _ _ e,
  fun p hp=>(I.cells p hp).keep (FLe.refl _) (fun _ e=>e) (fun b o _ e=>k _ _ e) fun b o e=>k _ _ (I.frz b o e),I.nd,fun a x e=>⟨k _ _ (I.base a x e).1,(I.base a x e).2⟩⟩
theorem Ext.push {X:Option Addr} (W:Wd) (s:Shared) (o:Obj) (t:Nat):Ext X W s W { s with heap:=s.heap.push o,toks:=t }:=.keeps (fun _ _ e=>Heap.get?_push_of_some _ e) rfl rfl rfl
noncomputable def Wd.freeze (W:Wd) (a:Addr) (o:Obj):Wd:={ F:=fun b=>if b=a then some o else W.F b,own:=W.own }
theorem Wd.freeze_le {W:Wd} {a:Addr} {o:Obj} (h:W.F a=none):FLe W.F (W.freeze a o).F:=fun b x e=>by
 show (if b=a then some o else W.F b)=some x
 rw [if_neg fun q=>by rw [q,h] at e;cases e];exact e
theorem Wd.freeze_self {W:Wd} {a:Addr} {o:Obj}:(W.freeze a o).F a=some o:=if_pos rfl
theorem Inv.F_none (I:Inv Q W σ h):W.F h.objs.size=none:=by
 cases q:W.F h.objs.size with
 | none=>rfl
 | some o=>exact absurd (Heap.lt_size (I.frz _ _ q)) (Nat.lt_irrefl _)
theorem Inv.own_none (I:Inv Q W σ h):W.own h.objs.size=none:=by
 cases q:W.own h.objs.size with
 | none=>rfl
 | some o=>obtain ⟨x,e⟩:=I.live _ _ q;exact absurd (Heap.lt_size e) (Nat.lt_irrefl _)
theorem Inv.pushF (I:Inv Q W σ h) {o:Obj} (hf:o.isFreed=false):Inv Q (W.freeze h.objs.size o) σ (h.push o):=
 ⟨fun a x e=>by
   by_cases q:a=h.objs.size
   ·subst q;rw [Wd.freeze_self] at e;cases e;exact Heap.get?_push_size _ hf
   ·have e':W.F a=some x:=by have z:(if a=h.objs.size then some o else W.F a)=some x:=e;rw [if_neg q] at z;exact z
    exact Heap.get?_push_of_some _ (I.frz a x e'),
  fun a x e=>by
   by_cases q:a=h.objs.size
   ·subst q;exact I.own_none
   ·have e':W.F a=some x:=by have z:(if a=h.objs.size then some o else W.F a)=some x:=e;rw [if_neg q] at z;exact z
    exact I.frzO a x e',
  fun a x e=>(I.live a x e).imp fun _ e=>Heap.get?_push_of_some _ e,
  fun p hp=>(I.cells p hp).keep (Wd.freeze_le I.F_none) (fun _ e=>e) (fun b o _ e=>Heap.get?_push_of_some _ e) fun b o e=>Heap.get?_push_of_some _ (I.frz b o e),I.nd,fun a x e=>⟨Heap.get?_push_of_some _ (I.base a x e).1,(I.base a x e).2⟩⟩
theorem Ext.pushF {X:Option Addr} {s:Shared} (I:Inv Q W σ s.heap) (o:Obj) (t:Nat):Ext X W s (W.freeze s.heap.objs.size o) { s with heap:=s.heap.push o,toks:=t }:=
 ⟨Wd.freeze_le I.F_none,fun b x e g=>⟨e,fun f=>by
   show (if b=s.heap.objs.size then some o else W.F b)=none
   rw [if_neg (Nat.ne_of_lt (Heap.lt_size g))];exact f,⟨x,Heap.get?_push_of_some _ g⟩,fun _=>Heap.get?_push_of_some _ g⟩,rfl,rfl,rfl⟩
noncomputable def Wd.add (W:Wd) (a:Addr):Wd:={ F:=W.F,own:=fun b=>if b=a then some a else W.own b }
theorem Wd.add_self {W:Wd} {a:Addr}:(W.add a).own a=some a:=if_pos rfl
theorem Wd.add_ne {W:Wd} {a b:Addr} (h:b≠a):(W.add a).own b=W.own b:=if_neg h
theorem Inv.pushC (I:Inv Q W σ h) {o:Obj} (hf:o.isFreed=false) {c:Cell} (hc:CellAt Q (W.add h.objs.size) (h.push o) h.objs.size c):Inv Q (W.add h.objs.size) ((h.objs.size,c)::σ) (h.push o):=by
 have old:∀ b,(∃ x,h.get? b=some x)→b≠h.objs.size:=fun b ⟨x,e⟩=>Nat.ne_of_lt (Heap.lt_size e)
 refine ⟨fun a x e=>Heap.get?_push_of_some _ (I.frz a x e),fun a x e=>(Wd.add_ne (old a ⟨_,I.frz a x e⟩)).trans (I.frzO a x e),fun a x e=>?_,fun p hp=>?_,?_,
  fun a x e=>⟨Heap.get?_push_of_some _ (I.base a x e).1,(Wd.add_ne (old a ⟨_,(I.base a x e).1⟩)).trans (I.base a x e).2⟩⟩
 ·by_cases q:a=h.objs.size
  ·subst q;exact ⟨o,Heap.get?_push_size _ hf⟩
  ·rw [Wd.add_ne q] at e
   exact (I.live a x e).imp fun _ e=>Heap.get?_push_of_some _ e
 ·rcases List.mem_cons.mp hp with rfl|hp
  ·exact hc
  ·exact (I.cells p hp).keep (FLe.refl _) (fun b e=>(Wd.add_ne (old b (I.live b _ e))).trans e) (fun b o _ e=>Heap.get?_push_of_some _ e) fun b o e=>Heap.get?_push_of_some _ (I.frz b o e)
 ·rw [List.map_cons,List.nodup_cons]
  refine ⟨fun q=>?_,I.nd⟩
  obtain ⟨p,hp,e⟩:=List.mem_map.mp q
  exact old p.1 (I.live p.1 _ (I.cells p hp).owned) e
theorem Ext.pushC {X:Option Addr} (W:Wd) (s:Shared) (o:Obj) (t:Nat):Ext X W s (W.add s.heap.objs.size) { s with heap:=s.heap.push o,toks:=t }:=
 ⟨FLe.refl _,fun b x e g=>⟨(Wd.add_ne (Nat.ne_of_lt (Heap.lt_size g))).trans e,id,⟨x,Heap.get?_push_of_some _ g⟩,fun _=>Heap.get?_push_of_some _ g⟩,rfl,rfl,rfl⟩
theorem Inv.perm {σ':St} (I:Inv Q W σ h) (p:σ.Perm σ'):Inv Q W σ' h:=
 ⟨I.frz,I.frzO,I.live,fun q hq=>I.cells q (p.mem_iff.mpr hq),(p.map _).nodup_iff.mp I.nd,I.base⟩
theorem Inv.upd {σ₁ σ₂:St} {a:Addr} {c c':Cell} {h':Heap} (I:Inv Q W (σ₁++(a,c)::σ₂) h) (hl:∀ b,W.own b=some a→∃ o,h'.get? b=some o) (k:∀ b o,W.own b≠some a→h.get? b=some o→h'.get? b=some o) (hc:CellAt Q W h' a c'):
  Inv Q W (σ₁++(a,c')::σ₂) h':=by
 have nd:=I.nd
 rw [List.map_append,List.map_cons] at nd
 refine ⟨fun b o e=>k b o (by rw [I.frzO b o e];exact nofun) (I.frz b o e),I.frzO,fun b x e=>if q:W.own b=some a then hl b q else let ⟨o,g⟩:=I.live b x e;⟨o,k b o q g⟩,fun p hp=>?_,by rw [List.map_append,List.map_cons];exact nd,
  fun b o e=>⟨k b o (by rw [(I.base b o e).2];exact nofun) (I.base b o e).1,(I.base b o e).2⟩⟩
 have other:∀ p:Addr × Cell,p.1≠a→p∈σ₁++(a,c)::σ₂→CellAt Q W h' p.1 p.2:=fun p hne hp=>
  (I.cells p hp).keep (FLe.refl _) (fun _ e=>e) (fun b o e g=>k b o (by rw [e];exact fun q=>hne (Option.some.inj q)) g) fun b o e=>k b o (by rw [I.frzO b o e];exact nofun) (I.frz b o e)
 rcases List.mem_append.mp hp with hp|hp
 ·refine other p (fun e=>?_) (List.mem_append_left _ hp)
  have:=(List.nodup_append.mp nd).2.2 p.1 (List.mem_map_of_mem hp) a (.head _)
  exact this e
 ·rcases List.mem_cons.mp hp with rfl|hp
  ·exact hc
  ·refine other p (fun e=>?_) (List.mem_append_right _ (.tail _ hp))
   have:=(List.nodup_cons.mp (List.nodup_append.mp nd).2.1).1
   exact this (e▸(List.mem_map_of_mem hp:p.1∈σ₂.map (·.1)))
theorem Ext.upd {X:Option Addr} {s:Shared} {h':Heap} {a:Addr} (t:Nat) (k:∀ b o,W.own b≠some a→s.heap.get? b=some o→h'.get? b=some o):Ext X W s W { s with heap:=h',toks:=t }:=
 have q:∀ b o,W.own b=none→s.heap.get? b=some o→h'.get? b=some o:=fun b o e g=>k b o (by rw [e];exact nofun) g
 .same (fun b o e g=>⟨⟨o,q b o e g⟩,fun _=>q b o e g⟩) rfl rfl rfl
end
end
section
set_option tactic.hygienic false
noncomputable abbrev Rho:=List (Option AV)
noncomputable def nsOf (sc:Scope):List Str:=sc.names.filterMap fun x=>if x.2=.local then some x.1 else none
structure Room (A:Around) (n:Nat):Prop where
 hd:A.handled=none
 d:A.depth+4*n < 900
 u:A.units+40*n < 9000
theorem Room.le {A:Around} {n m:Nat} (r:Room A n) (h:m≤n):Room A m:=⟨r.hd,Nat.lt_of_le_of_lt (Nat.add_le_add_left (Nat.mul_le_mul_left 4 h) _) r.d,Nat.lt_of_le_of_lt (Nat.add_le_add_left (Nat.mul_le_mul_left 40 h) _) r.u⟩
theorem nl {a b c d m:Nat} (h:a+(c+b) < m) (k:d≤c):a+d+b < m:=Nat.lt_of_le_of_lt (Nat.add_assoc a d b▸Nat.add_le_add_left (Nat.add_le_add_right k b) a) h
theorem Room.d' {A:Around} {n:Nat} (r:Room A (n+1)) {k:Nat} (h:k≤4):A.depth+k+4*n < 900:=nl (Nat.add_comm (4*n) 4▸r.d) h
theorem Room.u' {A:Around} {n:Nat} (r:Room A (n+1)) {k:Nat} (h:k≤40):A.units+k+40*n < 9000:=nl (Nat.add_comm (40*n) 40▸r.u) h
theorem Room.deeper {A:Around} {n:Nat} (r:Room A (n+1)) (e:Env):Room (A.deeper e) n:=⟨r.hd,r.d' (k:=1) (by decide),r.u' (k:=3) (by decide)⟩
theorem Room.room {A:Around} {n:Nat} (r:Room A n):A.depth < recursionLimit:=Nat.lt_of_lt_of_le (Nat.lt_of_le_of_lt (Nat.le_add_right _ _) r.d) (show 900≤1000 by decide)
theorem Room.units64 {A:Around} {n:Nat} (r:Room A n):A.units+64 < cLine:=Nat.lt_of_lt_of_le (Nat.add_lt_add_right (Nat.lt_of_le_of_lt (Nat.le_add_right _ _) r.u) 64) (show 9064≤9900 by decide)
theorem Room.units {A:Around} {n:Nat} (r:Room A n):A.units < cLine:=Nat.lt_of_le_of_lt (Nat.le_add_right _ 64) r.units64
structure Po where
 W:Wd
 s:Shared
noncomputable abbrev Po.tok (p:Po) (t:Nat):Po:=⟨p.W,{ p.s with toks:=t }⟩
noncomputable def Bh (X:Option Addr) (p q:Po):Prop:=Ext X p.W p.s q.W q.s
section
variable (Q:Bt)
structure FrOk (env:Env) (ρ:Rho) (p:Po):Prop where
 ns:∃ m,p.s.heap.Ns env.locals m∧∀ (i:Nat) (x:Str) (d:AV),(nsOf env.scope)[i]?=some x→ρ[i]?=some (some d)→∃ v,m x=some v∧V Q p.W.F v d
 own:p.W.own env.locals=none
 F:p.W.F env.locals=none
 base:Q.hB.get? env.locals=none
 len:ρ.length=(nsOf env.scope).length
structure At (env:Env) (ρ:Rho) (σ:St) (p:Po):Prop where
 I:Inv Q p.W σ p.s.heap
 F:FrOk Q env ρ p
@[reducible] noncomputable def WP {α:Type} (A:Around) (t:Sem α) (G:α→Shared→Prop) (s:Shared):Prop:=wpAny (model Q.prog Q.w) A t G (fun _ _=>False) s
noncomputable def WX {α β:Type} (n:Nat) (env:Env) (R:FH→α→β→Prop) (t:Sem α) (ρ:Rho) (σ:St) (Φ:β→Rho→St→Prop):Prop:=
 ∀ (A:Around) (p:Po) (G:α→Shared→Prop),Room A n→At Q env ρ σ p→(∀ (ρ':Rho) (σ':St) (q:Po) (x:α) (y:β),At Q env ρ' σ' q→Bh (some env.locals) p q→R q.W.F x y→Φ y ρ' σ'→G x q.s)→WP Q A t G p.s
noncomputable def WC (n:Nat) (f:Value) (args:List AV) (σ:St) (Φ:AV→St→Prop):Prop:=
 ∀ (A:Around) (p:Po) (vs:List Value) (G:Value→Shared→Prop),Room A n→Inv Q p.W σ p.s.heap→VL Q p.W.F vs args →
  (∀ (σ':St) (q:Po) (v:Value) (d:AV),Inv Q q.W σ' q.s.heap→Bh none p q→V Q q.W.F v d→Φ d σ'→G v q.s)→WP Q A (call f vs) G p.s
noncomputable def WD (n:Nat) (f:Value) (args:List AV) (σ:St) (Φ:AV→St→Prop):Prop:=
 ∀ (A:Around) (p:Po) (vs:List Value) (G:Value→Shared→Prop),Room A n→Inv Q p.W σ p.s.heap→VL Q p.W.F vs args →
  (∀ (σ':St) (q:Po) (v:Value) (d:AV),Inv Q q.W σ' q.s.heap→Bh none p q→V Q q.W.F v d→Φ d σ'→G v q.s) →
  codeAny (model Q.prog Q.w) A (.call f ⟨vs,[]⟩) (fun r s'=>match r with
   | .ok (.ret v)=>G v s'
   | _=>False) p.s
inductive AFl where
 | next|brk|cont|ret (d:AV)
inductive VFl (F:FH):Flow→AFl→Prop
 | next:VFl F .next .next
 | brk:VFl F .brk .brk
 | cont:VFl F .cont .cont
 | ret {v:Value} {d:AV} (h:V Q F v d):VFl F (.ret v) (.ret d)
noncomputable abbrev WE (n:Nat) (env:Env) (e:Expr) (ρ:Rho) (σ:St) (Φ:AV→Rho→St→Prop):Prop:=WX Q n env (V Q) (eval e env) ρ σ Φ
noncomputable abbrev WL (n:Nat) (env:Env) (es:List Expr) (ρ:Rho) (σ:St) (Φ:List AV→Rho→St→Prop):Prop:=∀ pos,WX Q n env (VL Q) (spliced (backTo pos (starEach es env))) ρ σ Φ
noncomputable abbrev WT (n:Nat) (env:Env) (e:Expr) (ρ:Rho) (σ:St) (Φ:Bool→Rho→St→Prop):Prop:=WX Q n env (fun _ b c=>b=c) (isTrue e env (eval e env)) ρ σ Φ
noncomputable abbrev WS (n:Nat) (env:Env) (st:Stmt) (ρ:Rho) (σ:St) (Φ:AFl→Rho→St→Prop):Prop:=WX Q n env (VFl Q) (exec st env) ρ σ Φ
noncomputable abbrev WB (n:Nat) (env:Env) (st:List Stmt) (ρ:Rho) (σ:St) (Φ:AFl→Rho→St→Prop):Prop:=WX Q n env (VFl Q) (execs st env) ρ σ Φ
noncomputable def WA (n:Nat) (env:Env) (e:Expr) (d:AV) (ρ:Rho) (σ:St) (Φ:Rho→St→Prop):Prop:=
 ∀ (A:Around) (p:Po) (v:Value) (G:Unit→Shared→Prop),Room A n→At Q env ρ σ p→V Q p.W.F v d→(∀ (ρ':Rho) (σ':St) (q:Po),At Q env ρ' σ' q→Bh (some env.locals) p q→Φ ρ' σ'→G () q.s)→WP Q A (assign e env v) G p.s
end
theorem VFl.nx {Q:Bt} {F F':FH} {x:Flow} (h:VFl Q F x .next):VFl Q F' x .next:=by cases h;exact .next
structure EnvOk (env:Env) (sc:Scope) (cs:List (Str × Addr)):Prop where
 scp:env.scope=sc
 glob:env.globals=mainGlobals
 blt:env.builtins=builtinsNs
 kind:sc.kind=.function
 cel:env.cells=cs
section
variable {Q:Bt} {n:Nat} {A:Around} {env:Env} {σ:St} {ρ:Rho} {p q r:Po} {X:Option Addr}
theorem Bh.refl (X:Option Addr) (p:Po):Bh X p p:=Ext.refl X p.W p.s
theorem Bh.trans (x:Bh X p q) (y:Bh X q r):Bh X p r:=Ext.trans x y
theorem Bh.tok (x:Bh X p q) (t:Nat):Bh X p (q.tok t):=Ext.trans x (Ext.tok q.W q.s t)
theorem Bh.wide (x:Bh none p q):Bh X p q:=Ext.wide x
theorem At.tok (h:At Q env ρ σ p) (t:Nat):At Q env ρ σ (p.tok t):=⟨h.I,⟨h.F.ns,h.F.own,h.F.F,h.F.base,h.F.len⟩⟩
theorem Bh.V (x:Bh X p q) {v:Value} {d:AV} (h:V Q p.W.F v d):V Q q.W.F v d:=h.mono x.F
theorem Bh.VL (x:Bh X p q) {v:List Value} {d:List AV} (h:VL Q p.W.F v d):VL Q q.W.F v d:=h.mono x.F
theorem FrOk.ext (F:FrOk Q env ρ p) (x:Bh none p q):FrOk Q env ρ q:=by
 obtain ⟨m,⟨o,es,ep,ho,r⟩,hm⟩:=F.ns
 obtain ⟨u1,u2,u3,u4⟩:=x.un _ o F.own ho
 refine ⟨⟨m,⟨o,es,ep,u4 nofun,r⟩,fun i y d h1 h2=>?_⟩,u1,u2 F.F,F.base,F.len⟩
 obtain ⟨v,e,hv⟩:=hm i y d h1 h2
 exact ⟨v,e,x.V hv⟩
theorem At.ext {σ':St} (a:At Q env ρ σ p) (x:Bh none p q) (I:Inv Q q.W σ' q.s.heap):At Q env ρ σ' q:=⟨I,a.F.ext x⟩
theorem WD.wc {f:Value} {args:List AV} {Φ:AV→St→Prop} (h:WD Q n f args σ Φ):WC Q n f args σ Φ:=fun A p vs G R I hv k=>
 wpAny_call (codeAny_mono (h A p vs G R I hv k) fun r s' q=>by rcases r with e|(_|_|_|_)<;>first|exact q|exact q.elim)
theorem WX.mono {α β:Type} {R:FH→α→β→Prop} {t:Sem α} {Φ Φ':β→Rho→St→Prop} (h:WX Q n env R t ρ σ Φ) (k:∀ y ρ σ,Φ y ρ σ→Φ' y ρ σ):WX Q n env R t ρ σ Φ':=fun A p G r a z=>h A p G r a fun ρ' σ' q x y b e c φ=>z ρ' σ' q x y b e c (k y ρ' σ' φ)
theorem WC.mono {f:Value} {args:List AV} {Φ Φ':AV→St→Prop} (h:WC Q n f args σ Φ) (k:∀ d σ,Φ d σ→Φ' d σ):WC Q n f args σ Φ':=fun A p vs G r I v z=>h A p vs G r I v fun σ' q x d b e c φ=>z σ' q x d b e c (k d σ' φ)
theorem WX.look {α β:Type} {R:FH→α→β→Prop} {t:Sem α} {Φ:β→Rho→St→Prop} {y:β} (hΦ:Φ y ρ σ) (h:∀ (A:Around) (p:Po) (G:α→Shared→Prop),Room A n→At Q env ρ σ p→(∀ x t,R p.W.F x y→G x (p.tok t).s)→WP Q A t G p.s):WX Q n env R t ρ σ Φ:=
 fun A p G r a k=>h A p G r a fun x t c=>k ρ σ (p.tok t) x y (a.tok t) (Bh.tok (Bh.refl _ p) t) c hΦ
theorem WC.at {f:Value} {vs:List Value} {args:List AV} {Φ:AV→St→Prop} (h:WC Q n f args σ Φ) (r:Room A n) (a:At Q env ρ σ p) (hv:VL Q p.W.F vs args) {G:Value→Shared→Prop}
  (k:∀ (σ':St) (q:Po) (v:Value) (d:AV),At Q env ρ σ' q→Bh (some env.locals) p q→V Q q.W.F v d→Φ d σ'→G v q.s):WP Q A (PySem.call f vs) G p.s:=
 h A p vs G r a.I hv fun σ' q v d I x c φ=>k σ' q v d (a.ext x I) x.wide c φ
end
end
section
set_option tactic.hygienic false
set_option genCtorIdx false in
inductive T where
 | nil|cons (a r:T)
 | loc (i:Nat) (p:Pos)|cel (i:Nat) (p:Pos)|glb (j:Nat) (p:Pos)
 | con (c:Const) (k:Nat) (p:Pos)
 | bin (op:Operator) (l r:T) (p:Pos)|un (op:UnaryOp) (x:T) (p:Pos)|cmp (op:CmpOp) (l r:T) (p:Pos)|chn (o₁ o₂:CmpOp) (a m z:T) (p:Pos)
 | bop (op:BoolOp) (es:T) (p:Pos)|ife (t b o:T) (p:Pos)
 | tup (es:T) (k:Nat) (p:Pos)|lst (fz:Bool) (es:T) (p:Pos)
 | att (o:T) (t:Nat) (p:Pos)|sub (o i:T) (p:Pos)
 | cal (f args:T) (p:Pos)|mth (o:T) (k j:Nat) (ap:Pos) (args:T) (p:Pos)|mtb (o:T) (b:Nat) (ap:Pos) (args:T) (p:Pos)|opi (p₀ ap:Pos) (args:T) (p:Pos)
 | raw (e:Expr)
 | asg (t v:T) (p:Pos)|asT (sw:Bool) (es:T) (k:Nat) (tp:Pos) (v:T) (p:Pos)|exs (e:T) (p:Pos)|ret (e:T) (p:Pos)|rtn (p:Pos)
 | iff (t b o:T) (p:Pos)|whl (t b:T) (p:Pos)|frr (t i b:T) (p:Pos)|pas (p:Pos)|brk (p:Pos)|tri (b:T) (h:ExceptHandler) (hs:List ExceptHandler) (p:Pos)|rws (s:Stmt)
noncomputable def gX:List Str:=["STACK","RSP","RBP","CONDITIONS","NAMES_64","TRAPS","range","int","list","tuple","bytes","enumerate","zip","sum","abs","len"]
noncomputable def gN (j:Nat):Str:=if j < 200 then nmS (st j) else gX.getD (j - 200) ""
noncomputable def bmN:Nat→Str
 | 0=>"split"|1=>"startswith"|2=>"append"|3=>"index"|_=>"get"
noncomputable def hd (l:List Expr):Expr:=l.headD (.Name "" ⟨0,0,0,0⟩)
noncomputable def okE:Expr→Bool
 | .Starred ..|.Set ..|.SetComp ..|.DictComp ..|.Slice ..=>false
 | _=>true
noncomputable def rawE (e:Expr):Expr:=bif okE e then e else .Name "" ⟨0,0,0,0⟩
noncomputable def den (ns cn:List Str):T→List Expr
 | .nil=>[]
 | .cons a r=>hd (den ns cn a)::den ns cn r
 | .loc i p=>[.Name (ns.getD i "") p]
 | .cel i p=>[.Name (cn.getD i "") p]
 | .glb j p=>[.Name (gN j) p]
 | .con c k p=>[.Constant c k p]
 | .bin op l r p=>[.BinOp (hd (den ns cn l)) op (hd (den ns cn r)) p]
 | .un op x p=>[.UnaryOp op (hd (den ns cn x)) p]
 | .cmp op l r p=>[.Compare (hd (den ns cn l)) [op] [hd (den ns cn r)] p]
 | .chn o₁ o₂ a m z p=>[.Compare (hd (den ns cn a)) [o₁,o₂] [hd (den ns cn m),hd (den ns cn z)] p]
 | .bop op es p=>[.BoolOp op (den ns cn es) p]
 | .ife t b o p=>[.IfExp (hd (den ns cn t)) (hd (den ns cn b)) (hd (den ns cn o)) p]
 | .tup es k p=>[.Tuple (den ns cn es) k p]
 | .lst _ es p=>[.List (den ns cn es) p]
 | .att o t p=>[.Attribute (hd (den ns cn o)) (aN t) p]
 | .sub o i p=>[.Subscript (hd (den ns cn o)) (hd (den ns cn i)) p]
 | .cal f args p=>[.Call (hd (den ns cn f)) (den ns cn args) [] p]
 | .mth o k j ap args p=>[.Call (.Attribute (hd (den ns cn o)) (nmS (mth k j)) ap) (den ns cn args) [] p]
 | .mtb o b ap args p=>[.Call (.Attribute (hd (den ns cn o)) (bmN b) ap) (den ns cn args) [] p]
 | .opi p₀ ap args p=>[.Call (.Attribute (.Name (nmS (st 73)) p₀) "__init__" ap) (den ns cn args) [] p]
 | .raw e=>[rawE e]
 | _=>[]
noncomputable def dnS (ns cn:List Str):T→List Stmt
 | .nil=>[]
 | .cons a r=>(dnS ns cn a).headD (.Pass ⟨0,0,0,0⟩)::dnS ns cn r
 | .asg t v p=>[.Assign [hd (den ns cn t)] (hd (den ns cn v)) p]
 | .asT _ es k tp v p=>[.Assign [.Tuple (den ns cn es) k tp] (hd (den ns cn v)) p]
 | .exs e p=>[.Expr (hd (den ns cn e)) p]
 | .ret e p=>[.Return (some (hd (den ns cn e))) p]
 | .rtn p=>[.Return none p]
 | .iff t b o p=>[.If (hd (den ns cn t)) (dnS ns cn b) (dnS ns cn o) p]
 | .whl t b p=>[.While (hd (den ns cn t)) (dnS ns cn b) [] p]
 | .frr t i b p=>[.For (hd (den ns cn t)) (hd (den ns cn i)) (dnS ns cn b) [] p]
 | .pas p=>[.Pass p]
 | .brk p=>[.Break p]
 | .tri b h hs p=>[.Try (dnS ns cn b) (h::hs) [] [] p]
 | .rws s=>[s]
 | _=>[]
structure Stop (p:Prop):Prop where
 ok:p
noncomputable def Br (c:Bool) (P R:Prop):Prop:=match c with
 | true=>P
 | false=>R
noncomputable def Lk (σ:St) (a:Addr) (P:Cell→Prop):Prop:=∃ c,(a,c)∈σ∧P c
noncomputable def Up (σ:St) (a:Addr) (P:Cell→(Cell→St)→Prop):Prop:=∃ σ₁ c σ₂,σ=σ₁++(a,c)::σ₂∧P c fun c'=>σ₁++(a,c')::σ₂
section
variable (Q:Bt)
noncomputable def CmpOk (σ:St) (op:CmpOp) (a b:AV) (c:Bool):Prop:=∀ (A:Around) (p:Po) (u v:Value) (G:Value→Shared→Prop),A.handled=none→A.units+64 < cLine→Inv Q p.W σ p.s.heap→V Q p.W.F u a→V Q p.W.F v b →
 (∀ t,G (.bool c) (p.tok t).s)→WP Q A (compareOp op u v) G p.s
noncomputable def SubOk (σ:St) (o i d:AV):Prop:=∀ (A:Around) (p:Po) (u v:Value) (G:Value→Shared→Prop),A.handled=none→A.units < cLine→Inv Q p.W σ p.s.heap→V Q p.W.F u o→V Q p.W.F v i→(∀ x t,V Q p.W.F x d→G x (p.tok t).s) →
 ∃ T id,p.s.TypeIs u T∧typeLookup (.type T) "__getitem__"=pure (some (.builtin id))∧WP Q A (getItem u v) G p.s
noncomputable def SetOk (σ:St) (o i d:AV) (σ':St):Prop:=∀ (A:Around) (p:Po) (u k v:Value) (G:Unit→Shared→Prop),A.handled=none→A.units < cLine→Inv Q p.W σ p.s.heap→V Q p.W.F u o→V Q p.W.F k i→V Q p.W.F v d →
 (∀ h t,Inv Q p.W σ' h→Bh none p ⟨p.W,{ p.s with heap:=h,toks:=t }⟩→G () { p.s with heap:=h,toks:=t })→WP Q A (setItem u k v) G p.s
noncomputable def IterOk (σ:St) (o:AV) (tk:Bool) (l:List AV) (σ':St):Prop:=∀ (A:Around) (p:Po) (u:Value) (G:Value→Shared→Prop),A.handled=none→A.units < cLine→Inv Q p.W σ p.s.heap→V Q p.W.F u o →
 (∀ (q:Po) (a:Addr),Bh none p q→Inv Q q.W ((a,.itr tk l)::σ') q.s.heap→G (.ref a) q.s)→WP Q A (pyIter u) G p.s
noncomputable def WG (n:Nat) (j:Nat) (args:List AV) (σ:St) (Φ:AV→St→Prop):Prop:=∀ a,Q.mg (nmS (st j))=some (.ref a)→WC Q n (.ref a) args σ Φ
noncomputable def WM (n:Nat) (k j:Nat) (args:List AV) (σ:St) (Φ:AV→St→Prop):Prop:=∀ f,(methIn Q.K (cT k) (nmS (Mine.mth k j)) f&&keepIn Q.K (.ref f))=true→WC Q n (.ref f) args σ Φ
noncomputable def WI (n:Nat) (args:List AV) (σ:St) (Φ:AV→St→Prop):Prop:=∀ f,clsAttrIn Q.K (cT 73) "__init__" f=true→WC Q n (.ref f) args σ Φ
end
noncomputable def idx (k:Int) (l:List AV):Option AV:=if k < -(2^62)∨2^62 < k then none else (seqIndex? k l.length).bind fun j=>l[j]?
noncomputable def getF (t:Nat):List Nat→List AV→Option AV
 | u::ls,d::ds=>bif Nat.beq u t then some d else getF t ls ds
 | _,_=>none
noncomputable def ixF (t:Nat):List Nat→Option Nat
 | u::ls=>bif Nat.beq u t then some 0 else (ixF t ls).map (·+1)
 | []=>none
noncomputable def putA (d:AV):Nat→List AV→Option (List AV)
 | 0,[]=>some [d]
 | 0,_::l=>some (d::l)
 | i+1,x::l=>(putA d i l).map (x::·)
 | _+1,[]=>none
noncomputable def putF (t:Nat) (k:Nat) (fs:List AV) (d:AV):Option (List AV):=(ixF t (lay k)).bind fun i=>putA d i fs
noncomputable def opt {α:Type} (o:Option α) (K:α→Prop):Prop:=match o with
 | some x=>K x
 | none=>False
noncomputable def toI:AV→Option Int
 | .int i=>some i
 | _=>none
noncomputable def toS:AV→Option Str
 | .str x=>some x
 | _=>none
noncomputable def toR:AV→Option Addr
 | .ref a=>some a
 | _=>none
noncomputable def toB:AV→Option Bool
 | .bool b=>some b
 | _=>none
noncomputable def toT:AV→Option (List AV)
 | .tup l=>some l
 | _=>none
noncomputable def toF:AV→Option Nat
 | .fn j=>some j
 | _=>none
noncomputable def toK:AV→Option (Nat × List AV)
 | .inst k fs=>some (k,fs)
 | _=>none
noncomputable def isN:AV→Bool
 | .none=>true
 | _=>false
noncomputable def alt {α:Type} (o:Option α) (K:α→Prop) (E:Prop):Prop:=match o with
 | some x=>K x
 | none=>E
noncomputable def asB (d:AV) (K:Bool→Prop):Prop:=opt (toB d) K
noncomputable def asT (d:AV) (K:List AV→Prop):Prop:=opt (toT d) K
noncomputable def asL (c:Cell) (K:List AV→Prop):Prop:=match c with
 | .lst l=>K l
 | _=>False
noncomputable def asI (c:Cell) (K:Nat→List AV→Prop):Prop:=match c with
 | .inst k fs=>K k fs
 | _=>False
noncomputable def asC (c:Cell):Option AV:=match c with
 | .cel d=>d
 | _=>none
noncomputable def isC (c:Cell):Bool:=match c with
 | .cel _=>true
 | _=>false
noncomputable def isBlt:AV→Bool
 | .blt _=>true
 | _=>false
noncomputable def noB (d:AV) (P:Prop):Prop:=bif isBlt d then False else P
noncomputable def intR (op:Operator) (i j:Int) (K:AV→Prop):Prop:=match op with
 | .Add=>K (.int (i+j))
 | .Sub=>K (.int (i - j))
 | .BitAnd=>K (.int (Builtin.bitAnd i j))
 | .BitOr=>K (.int (Builtin.bitOr i j))
 | .BitXor=>K (.int (Builtin.bitXor i j))
 | .Mult=>Stop (IntMulOk i j∧K (.int (i*j)))
 | .Mod=>Stop (j≠0∧K (.int (i.fmod j)))
 | .FloorDiv=>Stop ((j≠0∧j.natAbs.log2 < 9000)∧K (.int (i.fdiv j)))
 | .LShift=>Stop ((0≤j∧(Builtin.Int.intBits i:Int)+j≤2^27)∧K (.int (i*2^j.toNat)))
 | .RShift=>Stop (0≤j∧K (.int (i.fdiv (2^j.toNat))))
 | .Pow=>Stop ((0≤j∧(Builtin.Int.intBits i:Int)*j≤2^27)∧K (.int (i^j.toNat)))
 | _=>False
noncomputable def kd (K:AV→St→Prop) (σ:St) (d:AV):Prop:=K d σ
noncomputable def pMul (j:Int) (σ:St) (K:AV→St→Prop) (c:Cell):Prop:=asL c fun la=>(0 < la.length∧0≤j∧la.length≤100∧j≤100)∧∀ D,K (.ref D) ((D,.lst (List.replicate j.toNat la).flatten)::σ)
noncomputable def pAd2 (la:List AV) (σ:St) (K:AV→St→Prop) (c:Cell):Prop:=asL c fun lb=>la.length+lb.length≤1000∧∀ D,K (.ref D) ((D,.lst (la++lb))::σ)
noncomputable def pAd1 (y:Addr) (σ:St) (K:AV→St→Prop) (c:Cell):Prop:=asL c fun la=>Lk σ y (pAd2 la σ K)
noncomputable def binR (op:Operator) (a b:AV) (σ:St) (K:AV→St→Prop):Prop:=
 alt (toI b) (fun j=>alt (toI a) (fun i=>intR op i j (kd K σ))
  (opt (toR a) fun x=>match op with
   | .Mult=>Stop (Lk σ x (pMul j σ K))
   | _=>False))
 (match op with
  | .Add=>alt (toS a) (fun x=>opt (toS b) fun y=>Stop (x.length+y.length≤1000∧K (.str (x++y)) σ))
   (opt (toR a) fun x=>opt (toR b) fun y=>Stop (Lk σ x (pAd1 y σ K)))
  | _=>False)
noncomputable def unR (op:UnaryOp) (a:AV) (K:AV→Prop):Prop:=alt (toI a) (fun i=>match op with
  | .USub=>K (.int (-i))
  | _=>False)
 (opt (toB a) fun b=>match op with
  | .Not=>K (.bool (!b))
  | _=>False)
noncomputable def icmpR (op:CmpOp) (i j:Int) (K:Bool→Prop):Prop:=match op with
 | .Eq=>K (decide (i=j))
 | .NotEq=>K (i != j)
 | .Lt=>K (decide (i < j))
 | .LtE=>K (decide (i≤j))
 | .Gt=>K (decide (j < i))
 | .GtE=>K (decide (j≤i))
 | _=>False
noncomputable def CmpS (Q:Bt) (σ:St) (op:CmpOp) (a b:AV) (K:Bool→Prop):Prop:=∃ c,CmpOk Q σ op a b c∧K c
noncomputable def cmpR (Q:Bt) (op:CmpOp) (a b:AV) (σ:St) (K:Bool→Prop):Prop:=
 alt (toI a) (fun i=>alt (toI b) (fun j=>icmpR op i j K) (Stop (CmpS Q σ op a b K))) (Stop (CmpS Q σ op a b K))
noncomputable def truR (a:AV) (K:Bool→Prop):Prop:=alt (toB a) K (bif isN a then K false else False)
theorem all0 {α:Type} {P:α→Prop}:∀ b∈([]:List α),P b:=fun _ m=>nomatch m
theorem all1 {α:Type} {P:α→Prop} {a:α} {l:List α} (h:P a) (t:∀ b∈l,P b):∀ b∈a::l,P b:=fun b m=>(List.mem_cons.mp m).elim (fun e=>e▸h) (t b)
noncomputable def lkN {α:Type}:List (Nat × α)→Nat→Option α
 | [],_=>none
 | p::l,j=>bif Nat.beq p.1 j then some p.2 else lkN l j
noncomputable def gT:List (Nat × AV):=[(200,.int 4),(201,.int 4),(202,.int 5),(203,.str "o no b ae e ne be a s ns p np l ge le g"),(204,.str "rax rcx rdx rbx rsp rbp rsi rdi"),(205,.str "ud2 int int3 syscall cpuid")]
noncomputable def gV (j:Nat):Option AV:=match lkN gT j with
 | some d=>some d
 | none=>bif fnAll.elem j then some (.fn j) else none
noncomputable def bT:List (Nat × Value):=[(206,.type "range"),(207,.type "int"),(208,.type "list"),(209,.type "tuple"),(210,.type "bytes"),(211,.type "enumerate"),(212,.type "zip"),(213,.builtin "sum"),(214,.builtin "abs"),(215,.builtin "len")]
noncomputable def bV (j:Nat):Option Value:=lkN bT j
noncomputable def isDct:Expr→Bool
 | .Dict ..=>true
 | _=>false
noncomputable def plainB:T→Bool
 | .loc ..|.cel ..|.glb ..|.att ..|.sub ..=>true
 | .cal (.glb j _) _ _=>Nat.beq j 14
 | .raw e=>isDct e
 | _=>false
structure Cn where
 Q:Bt
 n:Nat
 env:Env
 ns:List Str
 cn:List Str
 ca:List Addr
 own:Bool
 gs:List Nat
noncomputable abbrev Cn.E (C:Cn) (t:T):Expr:=hd (den C.ns C.cn t)
noncomputable abbrev Cn.L (C:Cn) (t:T):List Expr:=den C.ns C.cn t
noncomputable abbrev Cn.B (C:Cn) (t:T):List Stmt:=dnS C.ns C.cn t
noncomputable abbrev Cn.S (C:Cn) (t:T):Stmt:=(dnS C.ns C.cn t).headD (.Pass ⟨0,0,0,0⟩)
inductive Md where
 | e|l|t|a (d:AV)|s (l:List AV)
noncomputable abbrev Kt:=AV→Rho→St→Prop
noncomputable def ck (j:Nat):Option Nat:=bif Nat.ble 200 j then (bif (bV j).isSome then some 2 else none) else bif clsIdx.elem j then some 1 else bif fnAll.elem j then some 0 else none
noncomputable def calR (C:Cn) (j t:Nat) (l:List AV) (σ:St) (K:AV→St→Prop):Prop:=match t with
 | 0=>Stop (WG C.Q C.n j l σ K)
 | 1=>Stop (WC C.Q C.n (.ref (cT j)) l σ K)
 | _=>opt (bV j) fun f=>Stop (WC C.Q C.n f l σ K)
noncomputable def KprS (Q:Bt) (σ:St) (a:Addr):Prop:=(∃ c b s cl,(a,Cell.fnc c b s cl)∈σ)
noncomputable def pAtt (t:Nat) (K:AV→Prop) (c:Cell):Prop:=asI c fun k fs=>opt (getF t (lay k) fs) fun d=>noB d (K d)
noncomputable def attR (ov:AV) (t:Nat) (σ:St) (K:AV→Prop):Prop:=
 alt (toK ov) (fun q=>opt (getF t (lay q.1) q.2) fun d=>noB d (K d)) (opt (toR ov) fun a=>Stop (Lk σ a (pAtt t K)))
noncomputable def SubS (Q:Bt) (σ:St) (o i:AV) (K:AV→Prop):Prop:=∃ d,SubOk Q σ o i d∧K d
noncomputable def SetS (Q:Bt) (σ:St) (o i d:AV) (K:St→Prop):Prop:=∃ σ',SetOk Q σ o i d σ'∧K σ'
noncomputable def subR (Q:Bt) (ov iv:AV) (σ:St) (K:AV→Prop):Prop:=
 alt (toT ov) (fun l=>opt (toI iv) fun k=>opt (idx k l) K) (Stop (SubS Q σ ov iv K))
noncomputable def midS:Nat→String
 | 0=>"str.split"|1=>"str.startswith"|2=>"list.append"|3=>"list.index"|_=>"dict.get"
noncomputable def okB (b:Nat) (c:Cell):Bool:=match c with
 | .lst _=>Nat.beq b 2 || Nat.beq b 3
 | .zd ..=>Nat.beq b 4
 | .sd _=>Nat.beq b 4
 | _=>false
noncomputable abbrev Ih:=Md→T→Rho→St→Kt→Prop
noncomputable def plainF:T→Bool
 | .loc ..|.cel ..|.sub ..=>true
 | _=>false
noncomputable def kv (K:Kt) (ρ:Rho) (σ:St) (d:AV):Prop:=K d ρ σ
noncomputable def kb (K:Kt) (ρ:Rho) (σ:St) (c:Bool):Prop:=K (.bool c) ρ σ
noncomputable def kr (K:Kt) (ρ:Rho) (d:AV) (σ:St):Prop:=K d ρ σ
noncomputable def kn (K:Kt) (ρ:Rho) (σ:St):Prop:=K .none ρ σ
noncomputable def kVg (C:Cn) (j:Nat) (K:Kt):Kt:=fun l ρ σ=>asT l fun l=>Stop (WG C.Q C.n j l σ (kr K ρ))
noncomputable def kVr (C:Cn) (a:Addr) (K:Kt):Kt:=fun l ρ σ=>asT l fun l=>Stop (KprS C.Q σ a∧WC C.Q C.n (.ref a) l σ (kr K ρ))
noncomputable def kV (C:Cn) (ih:Ih) (args:T) (K:Kt):Kt:=fun fv ρ σ=>alt (toF fv) (fun j=>ih .l args ρ σ (kVg C j K)) (opt (toR fv) fun a=>ih .l args ρ σ (kVr C a K))
noncomputable def callV (C:Cn) (ih:Ih) (f args:T) (ρ:Rho) (σ:St) (K:Kt):Prop:=ih .e f ρ σ (kV C ih args K)
noncomputable def isG:T→Option Nat
 | .glb j _=>some j
 | _=>none
noncomputable def isI:T→Option Int
 | .con (.int i) _ _=>some i
 | _=>none
noncomputable def kCl (C:Cn) (j t:Nat) (K:Kt):Kt:=fun l ρ σ=>asT l fun l=>calR C j t l σ (kr K ρ)
noncomputable def callR (C:Cn) (ih:Ih) (f args:T) (ρ:Rho) (σ:St) (K:Kt):Prop:=
 alt (isG f) (fun j=>bif C.gs.elem j then opt (ck j) fun t=>ih .l args ρ σ (kCl C j t K) else False)
  (bif plainF f then callV C ih f args ρ σ K else False)
noncomputable def mtOk (k j:Nat):Bool:=((49,6)::mtTab).elem (k,j)
noncomputable def okM (ap p:Pos) (l:List Expr):Bool:=Nat.beq ap.endLine p.line&&Nat.blt l.length 30
noncomputable def kM2 (C:Cn) (k j:Nat) (a:Addr) (K:Kt):Kt:=fun l ρ σ=>asT l fun l=>Stop (WM C.Q C.n k j (.ref a::l) σ (kr K ρ))
noncomputable def pM (C:Cn) (ih:Ih) (k j:Nat) (a:Addr) (args:T) (ρ:Rho) (σ:St) (K:Kt) (c:Cell):Prop:=asI c fun k' fs=>bif Nat.beq k' k then ih .l args ρ σ (kM2 C k j a K) else False
noncomputable def methR (C:Cn) (ih:Ih) (ov:AV) (k j:Nat) (args:T) (ρ:Rho) (σ:St) (K:Kt):Prop:=
 opt (toR ov) fun a=>Stop (Lk σ a (pM C ih k j a args ρ σ K))
noncomputable def kN2 (C:Cn) (b:Nat) (d:AV) (K:Kt):Kt:=fun l ρ σ=>asT l fun l=>Stop (WC C.Q C.n (.builtin (midS b)) (d::l) σ (kr K ρ))
noncomputable def pN (C:Cn) (ih:Ih) (b:Nat) (a:Addr) (args:T) (ρ:Rho) (σ:St) (K:Kt) (c:Cell):Prop:=bif okB b c then ih .l args ρ σ (kN2 C b (.ref a) K) else False
noncomputable def mtbR (C:Cn) (ih:Ih) (ov:AV) (b:Nat) (args:T) (ρ:Rho) (σ:St) (K:Kt):Prop:=
 alt (toS ov) (fun x=>bif Nat.ble b 1 then ih .l args ρ σ (kN2 C b (.str x) K) else False)
 (opt (toR ov) fun a=>Stop (Lk σ a (pN C ih b a args ρ σ K)))
noncomputable def conR (c:Const) (K:AV→Prop):Prop:=match c with
 | .int i=>K (.int i)
 | .str x=>K (.str x)
 | .bool b=>K (.bool b)
 | .none=>K .none
 | .bytes b=>K (.byt b.toArray)
 | _=>False
noncomputable def kI (ih:Ih) (b o:T) (K:Kt):Kt:=fun c ρ σ=>asB c fun c=>alt (isI b) (fun i=>alt (isI o) (fun j=>K (.int (if c then i else j)) ρ σ) (Br c (ih .e b ρ σ K) (ih .e o ρ σ K))) (Br c (ih .e b ρ σ K) (ih .e o ρ σ K))
noncomputable def iteR (ih:Ih) (t b o:T) (ρ:Rho) (σ:St) (K:Kt):Prop:=ih .t t ρ σ (kI ih b o K)
noncomputable def kB2 (op:Operator) (a:AV) (K:Kt):Kt:=fun b ρ σ=>binR op a b σ (kr K ρ)
noncomputable def kB1 (ih:Ih) (op:Operator) (r:T) (K:Kt):Kt:=fun a ρ σ=>ih .e r ρ σ (kB2 op a K)
noncomputable def kU (op:UnaryOp) (K:Kt):Kt:=fun a ρ σ=>unR op a (kv K ρ σ)
noncomputable def kC2 (Q:Bt) (op:CmpOp) (a:AV) (K:Kt):Kt:=fun b ρ σ=>cmpR Q op a b σ (kb K ρ σ)
noncomputable def kC1 (Q:Bt) (ih:Ih) (op:CmpOp) (r:T) (K:Kt):Kt:=fun a ρ σ=>ih .e r ρ σ (kC2 Q op a K)
noncomputable def kHb (Q:Bt) (ih:Ih) (op:CmpOp) (m:AV) (z:T) (K:Kt) (ρ:Rho) (σ:St) (c:Bool):Prop:=Br c (ih .e z ρ σ (kC2 Q op m K)) (K (.bool false) ρ σ)
noncomputable def kH2 (Q:Bt) (ih:Ih) (o₁ o₂:CmpOp) (a:AV) (z:T) (K:Kt):Kt:=fun m ρ σ=>cmpR Q o₁ a m σ (kHb Q ih o₂ m z K ρ σ)
noncomputable def kH1 (Q:Bt) (ih:Ih) (o₁ o₂:CmpOp) (m z:T) (K:Kt):Kt:=fun a ρ σ=>ih .e m ρ σ (kH2 Q ih o₁ o₂ a z K)
noncomputable def kOb (ih:Ih) (r:T) (p:Pos) (K:Kt) (d:AV) (ρ:Rho) (σ:St) (c:Bool):Prop:=Br c (K d ρ σ) (ih .e (.bop .Or r p) ρ σ K)
noncomputable def kO (ih:Ih) (r:T) (p:Pos) (K:Kt):Kt:=fun d ρ σ=>truR d (kOb ih r p K d ρ σ)
noncomputable def kT (K:Kt):Kt:=fun l ρ σ=>asT l fun l=>bif Nat.ble l.length 1000 then K (.tup l) ρ σ else False
noncomputable def kLs (fz:Bool) (K:Kt):Kt:=fun l ρ σ=>asT l fun l=>bif Nat.ble l.length 1000 then (bif fz then K (.lst l) ρ σ else Stop (∀ a,K (.ref a) ρ ((a,.lst l)::σ))) else False
noncomputable def kA (t:Nat) (K:Kt):Kt:=fun ov ρ σ=>attR ov t σ (kv K ρ σ)
noncomputable def kS2 (Q:Bt) (ov:AV) (K:Kt):Kt:=fun iv ρ σ=>subR Q ov iv σ (kv K ρ σ)
noncomputable def kS1 (Q:Bt) (ih:Ih) (i:T) (K:Kt):Kt:=fun ov ρ σ=>ih .e i ρ σ (kS2 Q ov K)
noncomputable def kM (C:Cn) (ih:Ih) (k j:Nat) (args:T) (K:Kt):Kt:=fun ov ρ σ=>methR C ih ov k j args ρ σ K
noncomputable def kN (C:Cn) (ih:Ih) (b:Nat) (args:T) (K:Kt):Kt:=fun ov ρ σ=>mtbR C ih ov b args ρ σ K
noncomputable def kOp (C:Cn) (K:Kt):Kt:=fun l ρ σ=>asT l fun l=>Stop (WI C.Q C.n l σ (kr K ρ))
noncomputable def pCe (K:Kt) (ρ:Rho) (σ:St) (c:Cell):Prop:=opt (asC c) fun d=>K d ρ σ
noncomputable def stepE (C:Cn) (ih:Ih) (t:T) (ρ:Rho) (σ:St) (K:Kt):Prop:=match t with
 | .loc i _=>opt (ρ.getD i none) fun d=>K d ρ σ
 | .cel i _=>opt C.ca[i]? fun a=>Stop (Lk σ a (pCe K ρ σ))
 | .glb j _=>bif C.gs.elem j then opt (gV j) fun d=>K d ρ σ else False
 | .con c _ _=>conR c (kv K ρ σ)
 | .bin op l r _=>ih .e l ρ σ (kB1 ih op r K)
 | .un op x _=>ih .e x ρ σ (kU op K)
 | .cmp op l r _=>ih .e l ρ σ (kC1 C.Q ih op r K)
 | .chn o₁ o₂ a m z _=>ih .e a ρ σ (kH1 C.Q ih o₁ o₂ m z K)
 | .bop op es p=>(match es with
  | .cons x r=>(match r with
   | .nil=>ih .e x ρ σ K
   | .cons _ _=>(match op with
    | .Or=>ih .e x ρ σ (kO ih r p K)
    | .And=>False)
   | _=>False)
  | _=>False)
 | .ife t b o _=>iteR ih t b o ρ σ K
 | .tup es _ _=>ih .l es ρ σ (kT K)
 | .lst fz es _=>ih .l es ρ σ (kLs fz K)
 | .att o t _=>bif plainB o then ih .e o ρ σ (kA t K) else False
 | .sub o i _=>ih .e o ρ σ (kS1 C.Q ih i K)
 | .cal f args _=>callR C ih f args ρ σ K
 | .mth o k j ap args p=>bif plainB o&&(mtOk k j&&okM ap p (C.L args)) then ih .e o ρ σ (kM C ih k j args K) else False
 | .mtb o b ap args p=>bif plainB o&&okM ap p (C.L args) then ih .e o ρ σ (kN C ih b args K) else False
 | .opi _ ap args p=>bif okM ap p (C.L args)&&C.gs.elem 73 then ih .l args ρ σ (kOp C K) else False
 | .raw e=>Stop (WE C.Q C.n C.env (rawE e) ρ σ K)
 | _=>False
noncomputable def kNo (K:Kt):Kt:=fun c ρ σ=>asB c fun c=>K (.bool (!c)) ρ σ
noncomputable def kBo (ih:Ih) (op:BoolOp) (r:T) (p:Pos) (K:Kt):Kt:=fun c ρ σ=>asB c fun c=>(match op with
 | .And=>Br c (ih .t (.bop .And r p) ρ σ K) (K (.bool false) ρ σ)
 | .Or=>Br c (K (.bool true) ρ σ) (ih .t (.bop .Or r p) ρ σ K))
noncomputable def kTr (K:Kt):Kt:=fun d ρ σ=>truR d (kb K ρ σ)
noncomputable def stepT (C:Cn) (ih:Ih) (t:T) (ρ:Rho) (σ:St) (K:Kt):Prop:=match t with
 | .cmp op l r _=>ih .e l ρ σ (kC1 C.Q ih op r K)
 | .chn o₁ o₂ a m z _=>ih .e a ρ σ (kH1 C.Q ih o₁ o₂ m z K)
 | .un .Not x _=>ih .t x ρ σ (kNo K)
 | .bop op es p=>(match es with
  | .nil=>(match op with
   | .And=>K (.bool true) ρ σ
   | .Or=>K (.bool false) ρ σ)
  | .cons x r=>ih .t x ρ σ (kBo ih op r p K)
  | _=>False)
 | .ife ..=>False
 | .un ..=>False
 | .raw ..=>False
 | .cons ..=>False
 | t=>ih .e t ρ σ (kTr K)
noncomputable def pCa (K:Kt) (ρ:Rho) (d:AV) (c:Cell) (g:Cell→St):Prop:=bif isC c then K .none ρ (g (.cel (some d))) else False
noncomputable def pAa (t:Nat) (K:Kt) (ρ:Rho) (d:AV) (c:Cell) (g:Cell→St):Prop:=asI c fun k fs=>opt (putF t k fs d) fun fs'=>K .none ρ (g (.inst k fs'))
noncomputable def kAa (t:Nat) (d:AV) (K:Kt):Kt:=fun ov ρ σ=>opt (toR ov) fun a=>Stop (Up σ a (pAa t K ρ d))
noncomputable def kZ2 (Q:Bt) (ov d:AV) (K:Kt):Kt:=fun iv ρ σ=>Stop (SetS Q σ ov iv d (kn K ρ))
noncomputable def kZ1 (Q:Bt) (ih:Ih) (i:T) (d:AV) (K:Kt):Kt:=fun ov ρ σ=>ih .e i ρ σ (kZ2 Q ov d K)
noncomputable def stepA (C:Cn) (ih:Ih) (d:AV) (t:T) (ρ:Rho) (σ:St) (K:Kt):Prop:=match t with
 | .loc i _=>bif Nat.blt i ρ.length then K .none (ρ.set i (some d)) σ else False
 | .cel i _=>bif C.own then opt C.ca[i]? fun a=>Stop (Up σ a (pCa K ρ d)) else False
 | .att o t _=>ih .e o ρ σ (kAa t d K)
 | .sub o i _=>ih .e o ρ σ (kZ1 C.Q ih i d K)
 | .tup es _ _=>asT d fun l=>bif Nat.beq l.length (C.L es).length then ih (.s l) es ρ σ K else False
 | _=>False
noncomputable def kP (ih:Ih) (l:List AV) (r:T) (K:Kt):Kt:=fun _ ρ σ=>ih (.s l) r ρ σ K
noncomputable def stepP (ih:Ih) (l:List AV) (t:T) (ρ:Rho) (σ:St) (K:Kt):Prop:=match t with
 | .nil=>(match l with
  | []=>K .none ρ σ
  | _=>False)
 | .cons a r=>(match l with
  | x::l=>ih (.a x) a ρ σ (kP ih l r K)
  | []=>False)
 | _=>False
noncomputable def kL2 (d:AV) (K:Kt):Kt:=fun l ρ σ=>asT l fun l=>K (.tup (d::l)) ρ σ
noncomputable def kL1 (ih:Ih) (r:T) (K:Kt):Kt:=fun d ρ σ=>ih .l r ρ σ (kL2 d K)
noncomputable def stepL (ih:Ih) (t:T) (ρ:Rho) (σ:St) (K:Kt):Prop:=match t with
 | .nil=>K (.tup []) ρ σ
 | .cons a r=>ih .e a ρ σ (kL1 ih r K)
 | _=>False
noncomputable def runE (C:Cn):Nat→Ih
 | 0=>fun _ _ _ _ _=>False
 | f+1=>fun m t ρ σ K=>match m with
  | .e=>stepE C (runE C f) t ρ σ K
  | .l=>stepL (runE C f) t ρ σ K
  | .t=>stepT C (runE C f) t ρ σ K
  | .a d=>stepA C (runE C f) d t ρ σ K
  | .s l=>stepP (runE C f) l t ρ σ K
noncomputable def isLC:Expr→Bool
 | .ListComp ..=>true
 | _=>false
noncomputable def lcT:T→Bool
 | .raw e=>isLC e
 | .cons ..=>true
 | _=>false
noncomputable def locs:T→Option (List Nat)
 | .nil=>some []
 | .cons (.loc i _) r=>(locs r).map (i::·)
 | _=>none
noncomputable def setAll:List Nat→List AV→Rho→Rho
 | i::is,d::ds,ρ=>setAll is ds (ρ.set i (some d))
 | _,_,ρ=>ρ
noncomputable abbrev Ks:=AFl→Rho→St→Prop
noncomputable def IterS (Q:Bt) (σ:St) (o:AV) (tk:Bool) (K:List AV→St→Prop):Prop:=∃ l σ',IterOk Q σ o tk l σ'∧K l σ'
noncomputable def kF2 (Z:Rho→St→Ks→Prop) (K:Ks):Ks:=fun f ρ σ=>match f with
  | .next=>Z ρ σ K
  | .cont=>Z ρ σ K
  | .brk=>K .next ρ σ
  | .ret v=>K (.ret v) ρ σ
noncomputable def kF1 (bd:Rho→St→Ks→Prop) (Z:Rho→St→Ks→Prop) (K:Ks):Kt:=fun _ ρ σ=>bd ρ σ (kF2 Z K)
noncomputable def forR (as:AV→Rho→St→Kt→Prop) (bd:Rho→St→Ks→Prop):List AV→Rho→St→Ks→Prop
 | [],ρ,σ,K=>K .next ρ σ
 | d::l,ρ,σ,K=>as d ρ σ (kF1 bd (forR as bd l) K)
noncomputable def tkOf:T→Option Bool
 | .loc ..=>some false
 | .tup ..=>some true
 | _=>none
noncomputable def kW2 (J:Nat→Rho→St→Prop) (m:Nat) (K:Ks):Ks:=fun f ρ σ=>match f with
  | .next=>∃ k,k < m∧J k ρ σ
  | .cont=>∃ k,k < m∧J k ρ σ
  | .brk=>K .next ρ σ
  | .ret d=>K (.ret d) ρ σ
noncomputable def kW1 (bd:Rho→St→Ks→Prop) (J:Nat→Rho→St→Prop) (m:Nat) (K:Ks):Kt:=fun c ρ σ=>asB c fun c=>Br c (bd ρ σ (kW2 J m K)) (K .next ρ σ)
noncomputable def Whl (ts:Rho→St→Kt→Prop) (bd:Rho→St→Ks→Prop) (ρ:Rho) (σ:St) (K:Ks):Prop:=
 ∃ (J:Nat→Rho→St→Prop) (m:Nat),J m ρ σ∧∀ m ρ σ,J m ρ σ→ts ρ σ (kW1 bd J m K)
noncomputable def tgR (C:Cn) (e:Ih) (t:T) (d:AV) (ρ:Rho) (σ:St) (K:Kt):Prop:=match t with
 | .tup es _ _=>asT d fun l=>bif Nat.beq l.length (C.L es).length then e (.s l) es ρ σ K else False
 | t=>e (.a d) t ρ σ K
noncomputable def tgT:T→Bool
 | .loc ..|.cel ..|.att ..|.sub ..=>true
 | _=>false
noncomputable abbrev Is:=Bool→T→Rho→St→Ks→Prop
noncomputable def kNx (K:Ks):Kt:=fun _ ρ σ=>K .next ρ σ
noncomputable def kG (e:Ih) (t:T) (K:Ks):Kt:=fun d ρ σ=>e (.a d) t ρ σ (kNx K)
noncomputable def kRt (K:Ks):Kt:=fun d ρ σ=>K (.ret d) ρ σ
noncomputable def kIf (ih:Is) (b o:T) (K:Ks):Kt:=fun c ρ σ=>asB c fun c=>Br c (ih true b ρ σ K) (ih true o ρ σ K)
noncomputable def kSw (is:List Nat) (K:Ks):Kt:=fun d ρ σ=>asT d fun l=>bif Nat.beq l.length is.length&&is.all (fun i=>Nat.blt i ρ.length) then K .next (setAll is.reverse l.reverse ρ) σ else False
noncomputable def kFo (as:AV→Rho→St→Kt→Prop) (bd:Rho→St→Ks→Prop) (ρ:Rho) (K:Ks) (l:List AV) (σ:St):Prop:=forR as bd l ρ σ K
noncomputable def kFr (C:Cn) (e:Ih) (tk:Bool) (t:T) (bd:Rho→St→Ks→Prop) (K:Ks):Kt:=fun ov ρ σ=>Stop (IterS C.Q σ ov tk (kFo (tgR C e t) bd ρ K))
noncomputable def stepS (C:Cn) (e:Ih) (ih:Is) (t:T) (ρ:Rho) (σ:St) (K:Ks):Prop:=match t with
 | .asg t v _=>bif tgT t then bif lcT v then False else e .e v ρ σ (kG e t K) else False
 | .asT sw es k tp v _=>bif lcT v then False else bif sw
  then opt (locs es) fun is=>Stop (swappedStores [.Tuple (C.L es) k tp] (C.E v) C.env=pure (some (is.map fun i=>C.ns.getD i ""))∧e .e v ρ σ (kSw is K))
  else Stop (swappedStores [.Tuple (C.L es) k tp] (C.E v) C.env=pure none∧e .e v ρ σ (kG e (.tup es k tp) K))
 | .exs e' _=>bif lcT e' then False else e .e e' ρ σ (kNx K)
 | .ret e' _=>e .e e' ρ σ (kRt K)
 | .rtn _=>K (.ret .none) ρ σ
 | .iff t b o _=>e .t t ρ σ (kIf ih b o K)
 | .whl t b _=>Stop (Whl (e .t t) (ih true b) ρ σ K)
 | .frr t i b _=>opt (tkOf t) fun tk=>e .e i ρ σ (kFr C e tk t (ih true b) K)
 | .pas _=>K .next ρ σ
 | .brk _=>K .brk ρ σ
 | .tri b _ _ _=>ih true b ρ σ K
 | .rws s=>Stop (WS C.Q C.n C.env s ρ σ K)
 | _=>False
noncomputable def kSq (ih:Is) (r:T) (K:Ks):Ks:=fun fl ρ σ=>match fl with
 | .next=>ih true r ρ σ K
 | fl=>K fl ρ σ
noncomputable def runS (C:Cn):Nat→Is
 | 0=>fun _ _ _ _ _=>False
 | f+1=>fun b t ρ σ K=>bif b then (match t with
   | .nil=>K .next ρ σ
   | .cons s r=>runS C f false s ρ σ (kSq (runS C f) r K)
   | _=>False) else stepS C (runE C f) (runS C f) t ρ σ K
end
section
set_option tactic.hygienic false
inductive FnIs (h:Heap) (f:Addr) (params:Arguments) (body:List Stmt) (sc:Scope) (cl:List (Str × Addr)):Prop
 | mk (o:Obj) (fd:FuncData) (e:h.get? f=some o) (d:o.data=.func fd) (c:h.CodeRec fd.code fd.qualname) (e1:fd.params=params) (e2:fd.body=.stmts body) (e3:fd.scope=sc) (e4:fd.globals=mainGlobals) (e5:fd.builtins=builtinsNs) (e6:fd.closure=cl) (e7:fd.defaults=.none)
inductive FnC (h:Heap) (f:Addr) (params:Arguments) (body:List Stmt) (sc:Scope) (qn:Str) (cd:Value):Prop
 | mk (o:Obj) (fd:FuncData) (e:h.get? f=some o) (d:o.data=.func fd) (c:h.CodeRec fd.code fd.qualname) (e1:fd.params=params) (e2:fd.body=.stmts body) (e3:fd.scope=sc) (e4:fd.globals=mainGlobals) (e5:fd.builtins=builtinsNs) (e6:fd.closure=[]) (e7:fd.defaults=.none) (e8:fd.qualname=qn) (e9:fd.code=cd)
inductive FnD (Q:Bt) (f:Addr) (params:Arguments) (body:List Stmt) (sc:Scope) (ds:List AV):Prop
 | mk (o:Obj) (fd:FuncData) (T:Addr) (ot:Obj) (items:Array Value) (k:Nat) (e:Q.hB.get? f=some o) (d:o.data=.func fd) (c:Q.hB.CodeRec fd.code fd.qualname) (e1:fd.params=params) (e2:fd.body=.stmts body) (e3:fd.scope=sc) (e4:fd.globals=mainGlobals) (e5:fd.builtins=builtinsNs) (e6:fd.closure=[]) (e7:fd.defaults=.ref T) (g:Q.hB.get? T=some ot) (gd:ot.data=.seq items k) (v:∀ F,VL Q F items.toList ds)
inductive BmOk (hB:Heap) (mg:Str→Option Value):Prop
 | mk (bm:Addr) (ob:Obj) (e:mg "__builtins__"=some (.ref bm)) (n:bm≠builtinsNs) (g:hB.get? bm=some ob) (c:ob.cls=.type "module") (d:ob.dict=some builtinsNs) (p:ob.data=.plain)
structure Cx (Q:Bt):Prop where
 X:Q.K.In Q.hB
 g:Q.hB.Ns mainGlobals Q.mg
 lim:Q.hB.NoLimit
 bt:∃ mb,Q.hB.Ns builtinsNs mb∧∀ x:Str,x≠"__name__"→mb x=bootBuiltins x
 Bm:BmOk Q.hB Q.mg
 sm:∃ o,Q.hB.get? sysModules=some o
 fn:∀ i∈fnIdx,∃ a,Q.mg (nmS (st i))=some (.ref a)∧FnIs Q.hB a (prS (st i)) (bdS (st i)) (scS (st i)) []
 fc:∀ i∈fcIdx,∃ a q cd,Q.mg (nmS (st i))=some (.ref a)∧FnC Q.hB a (prS (st i)) (bdS (st i)) (scS (st i)) q cd
 ft:∀ i∈ftIdx,∃ a cc,Q.mg (nmS (st i))=some (.ref a)∧FnC Q.hB a (prS (st i)) (bdS (st i)) (scS (st i)) (nmS (st i)) (.ref cc)∧CodeHd Q.hB cc (tT i)
 gi:∀ p∈giTab,∃ t,Q.mg p.1=some (.int p.2 t)
 gs:∀ p∈gsTab,∃ t,Q.mg p.1=some (.str p.2 t)
 bl:∀ x∈blNames,Q.mg x=none
 cl:∀ i∈clsIdx,Q.mg (nmS (st i))=some (.ref (cT i))∧keepIn Q.K (.ref (cT i))=true
 at_:∀ p∈atTab,attrIn Q.K (cT p.1) p.2=true
 sa:∀ p∈atTab,storeIn Q.K (cT p.1) p.2=true
 mt:∀ p∈mtTab,∃ f,(methIn Q.K (cT p.1) (nmS (mth p.1 p.2)) f&&keepIn Q.K (.ref f))=true∧FnIs Q.hB f (prS (mth p.1 p.2)) (bdS (mth p.1 p.2)) (scS (mth p.1 p.2)) []
 mo:∃ f q cd,(methIn Q.K (cT 49) (nmS (mth 49 6)) f&&keepIn Q.K (.ref f))=true∧FnC Q.hB f (prS (mth 49 6)) (bdS (mth 49 6)) (scS (mth 49 6)) q cd
 ini:∀ i∈iniIdx,∃ f,iniIn Q.K (cT i) f=true∧FnIs Q.hB f (prS (mth i 0)) (bdS (mth i 0)) (scS (mth i 0)) []
 inD:∀ p∈indTab,∃ f,iniIn Q.K (cT p.1) f=true∧FnD Q f (prS (mth p.1 0)) (bdS (mth p.1 0)) (scS (mth p.1 0)) p.2
 opI:∃ f,clsAttrIn Q.K (cT 73) "__init__" f=true∧FnIs Q.hB f (prS (mth 73 0)) (bdS (mth 73 0)) (scS (mth 73 0)) []
structure Cok (C:Cn) (sc:Scope):Prop where
 X:Cx C.Q
 E:EnvOk C.env sc (C.cn.zip C.ca)
 ns:nsOf sc=C.ns
 loc:∀ x∈C.ns,sc.names.lookup x=some .local∧(x==("__debug__":Str))=false
 nd:C.ns.Nodup
 cel:∀ x∈C.cn,(sc.names.lookup x=some .cell∨sc.names.lookup x=some .free)∧(x==("__debug__":Str))=false∧(x==("__classdict__":Str))=false
 own:C.own=true→∀ x∈C.cn,sc.names.lookup x=some .cell
 cnd:C.cn.Nodup
 cl:C.cn.length=C.ca.length
 gs:∀ j∈C.gs,sc.names.lookup (gN j)=some .globalImplicit∧(gN j==("__debug__":Str))=false
section
variable {Q:Bt} {F:FH} {v:Value} {vs:List Value}
theorem toI_some {d:AV} {i:Int} (h:toI d=some i):d=.int i:=by
 have e:(match toI d with|some i=>.int i|none=>d)=d:=by cases d<;>rfl
 rw [h] at e;exact e.symm
theorem toS_some {d:AV} {i:Str} (h:toS d=some i):d=.str i:=by
 have e:(match toS d with|some i=>.str i|none=>d)=d:=by cases d<;>rfl
 rw [h] at e;exact e.symm
theorem toR_some {d:AV} {i:Addr} (h:toR d=some i):d=.ref i:=by
 have e:(match toR d with|some i=>.ref i|none=>d)=d:=by cases d<;>rfl
 rw [h] at e;exact e.symm
theorem toB_some {d:AV} {i:Bool} (h:toB d=some i):d=.bool i:=by
 have e:(match toB d with|some i=>.bool i|none=>d)=d:=by cases d<;>rfl
 rw [h] at e;exact e.symm
theorem toT_some {d:AV} {i:List AV} (h:toT d=some i):d=.tup i:=by
 have e:(match toT d with|some i=>.tup i|none=>d)=d:=by cases d<;>rfl
 rw [h] at e;exact e.symm
theorem toF_some {d:AV} {i:Nat} (h:toF d=some i):d=.fn i:=by
 have e:(match toF d with|some i=>.fn i|none=>d)=d:=by cases d<;>rfl
 rw [h] at e;exact e.symm
theorem toK_some {d:AV} {i:Nat × List AV} (h:toK d=some i):d=.inst i.1 i.2:=by
 have e:(match toK d with|some i=>.inst i.1 i.2|none=>d)=d:=by cases d<;>rfl
 rw [h] at e;exact e.symm
theorem isN_true {d:AV} (h:isN d=true):d=.none:=by
 have e:(bif isN d then AV.none else d)=d:=by cases d<;>rfl
 rw [h] at e;exact e.symm
theorem asC_some {c:Cell} {d:AV} (h:asC c=some d):c=.cel (some d):=by
 have e:(match asC c with|some d=>.cel (some d)|none=>c)=c:=by
  cases c with
  | cel d=>cases d<;>rfl
  | _=>rfl
 rw [h] at e;exact e.symm
theorem isC_true {c:Cell} (h:isC c=true):∃ d,c=.cel d:=by cases c<;>first|exact ⟨_,rfl⟩|exact ffE h|exact tfE h|exact noE h|cases h
theorem asL_lst {c:Cell} {K:List AV→Prop} (h:asL c K):∃ l,c=.lst l∧K l:=by cases c<;>first|exact ⟨_,rfl,h⟩|exact h.elim
theorem asI_inst {c:Cell} {K:Nat→List AV→Prop} (h:asI c K):∃ k fs,c=.inst k fs∧K k fs:=by cases c<;>first|exact ⟨_,_,rfl,h⟩|exact h.elim
theorem opt_some {α:Type} {o:Option α} {K:α→Prop} (h:opt o K):∃ x,o=some x∧K x:=by cases o<;>first|exact ⟨_,rfl,h⟩|exact h.elim
theorem alt_or {α:Type} {o:Option α} {K:α→Prop} {E:Prop} (h:alt o K E):(∃ x,o=some x∧K x)∨E:=by cases o<;>first|exact .inl ⟨_,rfl,h⟩|exact .inr h
theorem bif_true {b:Bool} {P:Prop} (h:bif b then P else False):b=true∧P:=by cases b<;>first|exact ⟨rfl,h⟩|exact h.elim
theorem bif_false {b:Bool} {P:Prop} (h:bif b then False else P):b=false∧P:=by cases b<;>first|exact ⟨rfl,h⟩|exact h.elim
theorem asT_tup {d:AV} {K:List AV→Prop} (h:asT d K):∃ l,d=.tup l∧K l:=(opt_some h).imp fun l q=>⟨toT_some q.1,q.2⟩
theorem noB_ok {d:AV} {P:Prop} (h:noB d P):(∀ m,d≠.blt m)∧P:=⟨fun m e=>Bool.noConfusion ((congrArg isBlt e).symm.trans (bif_false h).1:true=false),(bif_false h).2⟩
inductive ITup (Q:Bt) (F:FH) (v:Value) (l:List AV):Prop
 | mk (a:Addr) (vs:Array Value) (n:Nat) (r:v=.ref a) (e:F a=some { cls:=.type "tuple",data:=.seq vs n }) (h:VL Q F vs.toList l)
inductive ILst (Q:Bt) (F:FH) (v:Value) (l:List AV):Prop
 | mk (a:Addr) (vs:Array Value) (n:Nat) (r:v=.ref a) (e:F a=some (PySem.W.listOf vs n)) (h:VL Q F vs.toList l)
inductive IInst (Q:Bt) (F:FH) (v:Value) (k:Nat) (fs:List AV):Prop
 | mk (a dx:Addr) (es:List DictEntry) (n:Nat) (r:v=.ref a) (e:F a=some (instObj (cT k) dx)) (e':F dx=some (dictOf es n)) (h:VF Q F es (fN k) fs)
inductive IFn (Q:Bt) (v:Value) (j:Nat):Prop
 | mk (a:Addr) (r:v=.ref a) (e:Q.mg (nmS (st j))=some (.ref a)) (h:fnAll.elem j=true)
inductive IRng (F:FH) (v:Value) (lo hi:Int):Prop
 | mk (a:Addr) (t u w:Tok) (r:v=.ref a) (e:F a=some { cls:=.type "range",data:=.fields #[.int lo t,.int hi u,.int 1 w] })
noncomputable def VIs (Q:Bt) (F:FH) (v:Value):AV→Prop
 | .none=>v=.none
 | .bool b=>v=.bool b
 | .int i=>∃ t,v=.int i t
 | .str x=>∃ t,v=.str x t
 | .byt b=>∃ t,v=.bytes b t
 | .tup l=>ITup Q F v l
 | .lst l=>ILst Q F v l
 | .inst k fs=>IInst Q F v k fs
 | .fn j=>IFn Q v j
 | .ref a=>v=.ref a
 | .blt n=>v=.builtin n
 | .typ n=>v=.type n
 | .rng lo hi=>IRng F v lo hi
theorem V.is {d:AV} (h:V Q F v d):VIs Q F v d:=by
 cases h with
 | none=>rfl
 | bool=>rfl
 | int=>exact ⟨_,rfl⟩
 | str=>exact ⟨_,rfl⟩
 | byt=>exact ⟨_,rfl⟩
 | tup e h=>exact ⟨_,_,_,rfl,e,h⟩
 | lst e h=>exact ⟨_,_,_,rfl,e,h⟩
 | inst e e' h=>exact ⟨_,_,_,_,rfl,e,e',h⟩
 | fn hj e=>exact ⟨_,rfl,e,hj⟩
 | ref=>rfl
 | blt=>rfl
 | typ=>rfl
 | rng e=>exact ⟨_,_,_,_,rfl,e⟩
theorem v_int {i:Int} (h:V Q F v (.int i)):∃ t,v=.int i t:=h.is
theorem v_str {i:Str} (h:V Q F v (.str i)):∃ t,v=.str i t:=h.is
theorem v_bool {i:Bool} (h:V Q F v (.bool i)):v=.bool i:=h.is
theorem v_none (h:V Q F v .none):v=.none:=h.is
theorem v_ref {i:Addr} (h:V Q F v (.ref i)):v=.ref i:=h.is
theorem v_byt {i:Array UInt8} (h:V Q F v (.byt i)):∃ t,v=.bytes i t:=h.is
theorem v_lst {l:List AV} (h:V Q F v (.lst l)):ILst Q F v l:=h.is
theorem v_tup {l:List AV} (h:V Q F v (.tup l)):ITup Q F v l:=h.is
theorem v_fn {j:Nat} (h:V Q F v (.fn j)):IFn Q v j:=h.is
theorem v_inst {k:Nat} {fs:List AV} (h:V Q F v (.inst k fs)):IInst Q F v k fs:=h.is
theorem v_rng {lo hi:Int} (h:V Q F v (.rng lo hi)):IRng F v lo hi:=h.is
inductive ICon (Q:Bt) (F:FH) (vs:List Value) (d:AV) (ds:List AV):Prop
 | mk (v:Value) (vs':List Value) (r:vs=v::vs') (h:V Q F v d) (t:VL Q F vs' ds)
noncomputable def VLIs (Q:Bt) (F:FH) (vs:List Value):List AV→Prop
 | []=>vs=[]
 | d::ds=>ICon Q F vs d ds
theorem VL.is {ds:List AV} (h:VL Q F vs ds):VLIs Q F vs ds:=by
 cases h with
 | nil=>rfl
 | cons h r=>exact ⟨_,_,rfl,h,r⟩
theorem vl_0 (h:VL Q F vs []):vs=[]:=h.is
theorem vl_c {d:AV} {ds:List AV} (h:VL Q F vs (d::ds)):ICon Q F vs d ds:=h.is
theorem vl_1 {a:AV} (h:VL Q F vs [a]):∃ v,vs=[v]∧V Q F v a:=by
 obtain ⟨v,vs,rfl,x,r⟩:=vl_c h
 exact ⟨v,vl_0 r▸rfl,x⟩
theorem vl_2 {a b:AV} (h:VL Q F vs [a,b]):∃ u v,vs=[u,v]∧V Q F u a∧V Q F v b:=by
 obtain ⟨v,vs,rfl,x,r⟩:=vl_c h
 obtain ⟨u,rfl,y⟩:=vl_1 r
 exact ⟨v,u,rfl,x,y⟩
theorem vl_3 {a b c:AV} (h:VL Q F vs [a,b,c]):∃ u v w,vs=[u,v,w]∧V Q F u a∧V Q F v b∧V Q F w c:=by
 obtain ⟨v,vs,rfl,x,r⟩:=vl_c h
 obtain ⟨u,w,rfl,y,z⟩:=vl_2 r
 exact ⟨v,u,w,rfl,x,y,z⟩
end
section
variable {Q:Bt} {n:Nat} {A:Around} {env:Env} {σ:St} {ρ ρ':Rho} {p q:Po} {W:Wd} {h:Heap} {K:AV→Rho→St→Prop}
theorem Inv.keepB (I:Inv Q W σ h):∀ b o,Q.hB.get? b=some o→h.get? b=some o:=fun b o e=>(I.base b o e).1
theorem Inv.frame {L:Addr} {h':Heap} (I:Inv Q W σ h) (hs:Heap.SameBut L h h') (ho:W.own L=none) (hF:W.F L=none) (hb:Q.hB.get? L=none):Inv Q W σ h':=
 have kF:∀ b o,W.F b=some o→h'.get? b=some o:=fun b o e=>(hs.2 b fun q=>by rw [q,hF] at e;exact nomatch e).trans (I.frz b o e)
 have kO:∀ b x,W.own b=some x→h'.get? b=h.get? b:=fun b x e=>hs.2 b fun q=>by rw [q,ho] at e;exact nomatch e
 ⟨kF,I.frzO,fun a x e=>(kO a x e).symm▸I.live a x e,fun p hp=>(I.cells p hp).keep (FLe.refl _) (fun _ e=>e) (fun b o e g=>(kO b _ e).trans g) kF,I.nd,
  fun a o e=>⟨(hs.2 a fun q=>by rw [q,hb] at e;exact nomatch e).trans (I.base a o e).1,(I.base a o e).2⟩⟩
theorem Ext.frame {L:Addr} {s:Shared} {h':Heap} (t:Nat) (hs:Heap.SameBut L s.heap h') (hl:∃ o,h'.get? L=some o):Ext (some L) W s W { s with heap:=h',toks:=t }:=
 .same (fun b o _ g=>by
  by_cases q:b=L
  ·exact ⟨q▸hl,fun n=>absurd (by rw [q]) n⟩
  ·exact ⟨⟨o,(hs.2 b q).trans g⟩,fun _=>(hs.2 b q).trans g⟩) rfl rfl rfl
theorem nodup_ix {α:Type} {l:List α} (nd:l.Nodup) {i j:Nat} {x:α} (h:l[i]?=some x) (k:l[j]?=some x):i=j:=by
 obtain ⟨a,b⟩:=List.getElem?_eq_some_iff.mp h
 obtain ⟨c,d⟩:=List.getElem?_eq_some_iff.mp k
 exact (List.getElem_inj nd).mp (b.trans d.symm)
theorem store_local {sc:Scope} {cs:List (Str × Addr)} (E:EnvOk env sc cs) (nd:(nsOf sc).Nodup) {i:Nat} {x:Str} {v:Value} {d:AV} {G:Unit→Shared→Prop} (hi:(nsOf sc)[i]?=some x) (hk:sc.names.lookup x=some .local) (a:At Q env ρ σ p) (hv:V Q p.W.F v d)
  (k:∀ q,At Q env (ρ.set i (some d)) σ q→Bh (some env.locals) p q→G () q.s):WP Q A (storeName env x v) G p.s:=by
 obtain ⟨m,hn,hm⟩:=a.F.ns
 refine wpAny_storeName_local (m:=m) (by show env.scope.names.lookup x=_;rw [E.scp];exact hk) hn (fun h' hn' hs=>?_) (by rw [E.scp,E.kind];rfl)
 refine k ⟨p.W,{ p.s with heap:=h',toks:=p.s.toks+1 }⟩ ⟨a.I.frame hs a.F.own a.F.F a.F.base,⟨⟨_,hn',fun j y u h1 h2=>?_⟩,a.F.own,a.F.F,a.F.base,by rw [List.length_set];exact a.F.len⟩⟩ (Ext.frame _ hs (let ⟨o,_,_,ho,_⟩:=hn';⟨o,ho⟩))
 rw [E.scp] at h1
 by_cases e:i=j
 ·subst e
  rw [hi] at h1
  cases h1
  rw [List.getElem?_set_self (by rw [a.F.len,E.scp];exact (List.getElem?_eq_some_iff.mp hi).1)] at h2
  cases h2
  exact ⟨v,if_pos rfl,hv⟩
 ·rw [List.getElem?_set_ne e] at h2
  obtain ⟨v',e',hv'⟩:=hm j y u (by rw [E.scp];exact h1) h2
  exact ⟨v',by rw [if_neg (fun q:y=x=>e (nodup_ix nd hi (q▸h1)))];exact e',hv'⟩
end
section
variable {C:Cn} {sc:Scope} {σ:St} {ρ:Rho} {K:AV→Rho→St→Prop}
theorem getD_some {l:Rho} {i:Nat} {d:AV} (h:l.getD i none=some d):l[i]?=some (some d):=by
 rw [List.getD_eq_getElem?_getD] at h
 cases e:l[i]? with
 | none=>rw [e] at h;cases h
 | some x=>rw [e] at h;exact congrArg some h
theorem ns_at (O:Cok C sc) {p:Po} (a:At C.Q C.env ρ σ p) {i:Nat} (h:i < ρ.length):(nsOf sc)[i]?=some (C.ns.getD i "")∧C.ns.getD i ""∈C.ns:=by
 have h:i < C.ns.length:=by rw [a.F.len,O.E.scp,O.ns] at h;exact h
 rw [O.ns,List.getD_eq_getElem?_getD,List.getElem?_eq_getElem h]
 exact ⟨rfl,List.getElem_mem h⟩
theorem e_loc (O:Cok C sc) {i:Nat} {p:Pos} (h:opt (ρ.getD i none) fun d=>K d ρ σ):WE C.Q C.n C.env (.Name (C.ns.getD i "") p) ρ σ K:=by
 cases e:ρ.getD i none with
 | none=>rw [e] at h;exact h.elim
 | some d=>
  rw [e] at h
  have e:=getD_some e
  refine WX.look h fun A p G r a k=>?_
  obtain ⟨x1,x2⟩:=ns_at O a (List.getElem?_eq_some_iff.mp e).1
  obtain ⟨m,hn,hm⟩:=a.F.ns
  obtain ⟨v,ev,hv⟩:=hm i _ d (by rw [O.E.scp];exact x1) e
  exact wpAny_Name (wpAny_loadName_local (by rw [O.E.scp];exact O.E.kind) (by show C.env.scope.names.lookup _=_;rw [O.E.scp];exact (O.loc _ x2).1) hn ev (k v _ hv)) (O.loc _ x2).2
theorem a_loc (O:Cok C sc) {i:Nat} {p:Pos} {d:AV} {Φ:Rho→St→Prop} (h:bif Nat.blt i ρ.length then Φ (ρ.set i (some d)) σ else False):WA C.Q C.n C.env (.Name (C.ns.getD i "") p) d ρ σ Φ:=fun A q v G r a hv k=>by
 cases e:Nat.blt i ρ.length with
 | false=>rw [e] at h;exact h.elim
 | true=>
  rw [e] at h
  obtain ⟨x1,x2⟩:=ns_at O a (Nat.le_of_ble_eq_true e)
  show wpAny _ _ (standAt p>>=fun _=>bindName C.env (C.ns.getD i "") v) _ _ _
  exact wpAny_bind (wpAny_standAt (wpAny_bindName (store_local O.E (O.ns.symm▸O.nd) x1 (O.loc _ x2).1 a hv fun q a x=>k _ _ q a x h)))
theorem cel_at (O:Cok C sc) {i:Nat} {a:Addr} (h:C.ca[i]?=some a):C.cn.getD i ""∈C.cn∧(C.cn.zip C.ca).lookup (C.cn.getD i "")=some a:=by
 have nd:=O.cnd
 have hl:=O.cl
 revert nd hl
 generalize C.cn=ns
 generalize C.ca=as at h
 intro nd hl
 induction ns generalizing as i with
 | nil=>cases as with
  | nil=>first|exact ffE h|exact tfE h|exact noE h|cases h
  | cons _ _=>first|exact ffE hl|exact tfE hl|exact noE hl|cases hl
 | cons x ns ih=>
  cases as with
  | nil=>first|exact ffE hl|exact tfE hl|exact noE hl|cases hl
  | cons b as=>
   rw [List.nodup_cons] at nd
   cases i with
   | zero=>cases h;exact ⟨.head _,by rw [List.zip_cons_cons,List.lookup_cons];simp⟩
   | succ i=>
    obtain ⟨h1,h2⟩:=ih (i:=i) as h nd.2 (Nat.succ.inj hl)
    refine ⟨.tail _ h1,?_⟩
    show ((x::ns).zip (b::as)).lookup (ns.getD i "")=some a
    rw [List.zip_cons_cons,List.lookup_cons,beq_eq_false_iff_ne.mpr (fun e:ns.getD i ""=x=>nd.1 (by rw [← e];exact h1))]
    exact h2
theorem e_cel (O:Cok C sc) {i:Nat} {p:Pos} (h:opt C.ca[i]? fun a=>Stop (Lk σ a fun c=>opt (asC c) fun d=>K d ρ σ)):WE C.Q C.n C.env (.Name (C.cn.getD i "") p) ρ σ K:=by
 cases e:C.ca[i]? with
 | none=>rw [e] at h;exact h.elim
 | some a=>
  rw [e] at h
  obtain ⟨c,hc,h⟩:=h.ok
  obtain ⟨x1,x2⟩:=cel_at O e
  obtain ⟨k1,k2,k3⟩:=O.cel _ x1
  cases e:asC c with
  | none=>rw [e] at h;exact h.elim
  | some d=>
   rw [e] at h
   have e:c=.cel (some d):=asC_some e
   subst e
   refine WX.look h fun A p G r a' k=>?_
   obtain ⟨v,hi,hv,_⟩:=a'.I.cells _ hc
   rcases k1 with k1|k1
   ·exact wpAny_Name (wpAny_loadName_cell (by rw [O.E.scp];exact O.E.kind) (by show C.env.scope.names.lookup _=_;rw [O.E.scp];exact k1) (by rw [O.E.cel];exact x2) hi (k v _ hv)) k2
   ·exact wpAny_Name (wpAny_loadName_free (by rw [O.E.scp];exact O.E.kind) (by show C.env.scope.names.lookup _=_;rw [O.E.scp];exact k1) (by rw [O.E.cel];exact x2) hi (k v _ hv) k3) k2
theorem e_glb (O:Cok C sc) {x:Str} {p:Pos} {v:Value} {d:AV} (hv:C.Q.mg x=some v) (hd:∀ F,V C.Q F v d) (hk:sc.names.lookup x=some .globalImplicit∧(x==("__debug__":Str))=false) (h:K d ρ σ):WE C.Q C.n C.env (.Name x p) ρ σ K:=
 WX.look h fun A p G r a k=>Name_function_global (by rw [O.E.scp];exact O.E.kind) (by show C.env.scope.names.lookup x=_;rw [O.E.scp];exact hk.1) (loadGlobal_global (by rw [O.E.glob];exact O.X.g.keeps a.I.keepB) hv (k v _ (hd _))) hk.2
theorem e_blt (O:Cok C sc) {x:Str} {p:Pos} {v:Value} {d:AV} (hm:C.Q.mg x=none) (hb:bootBuiltins x=some v) (hx:(x==("__name__":Str))=false) (hd:∀ F,V C.Q F v d) (hk:sc.names.lookup x=some .globalImplicit∧(x==("__debug__":Str))=false) (h:K d ρ σ):WE C.Q C.n C.env (.Name x p) ρ σ K:=by
 obtain ⟨mb,b1,b2⟩:=O.X.bt
 exact WX.look h fun A p G r a k=>Name_function_global (by rw [O.E.scp];exact O.E.kind) (by show C.env.scope.names.lookup x=_;rw [O.E.scp];exact hk.1)
  (loadGlobal_builtin (by rw [O.E.glob];exact O.X.g.keeps a.I.keepB) hm (by rw [O.E.blt];exact b1.keeps a.I.keepB) ((b2 x (beq_eq_false_iff_ne.mp hx)).trans hb) (k v _ (hd _))) hk.2
end
end
section
open Builtin Builtin.ObjectAttr
set_option tactic.hygienic false
section
variable {Q:Bt} {n:Nat} {A:Around} {env:Env} {σ:St} {ρ:Rho} {p:Po} {u v:Value} {a b:AV}
theorem lk_cell {W:Wd} {h:Heap} {a:Addr} {P:Cell→Prop} (I:Inv Q W σ h) (x:Lk σ a P):∃ c,CellAt Q W h a c∧P c:=let ⟨c,m,q⟩:=x;⟨c,I.cells _ m,q⟩
theorem vl_len {F:FH} {vs:List Value} {ds:List AV} (h:VL Q F vs ds):vs.length=ds.length:=by
 induction ds generalizing vs with
 | nil=>cases h;rfl
 | cons d ds ih=>cases h with|cons _ r=>exact congrArg (·+1) (ih r)
theorem vl_size {F:FH} {vs:Array Value} {ds:List AV} (h:VL Q F vs.toList ds):vs.size=ds.length:=vl_len h
theorem vl_app {F:FH} {c:List Value} {d:List AV} (y:VL Q F c d) {a:List Value} {b:List AV} (h:VL Q F a b):VL Q F (a++c) (b++d):=by
 induction b generalizing a with
 | nil=>cases h;exact y
 | cons x b ih=>cases h with|cons h r=>exact .cons h (ih r)
theorem vl_rep {F:FH} {vs:List Value} {ds:List AV} (h:VL Q F vs ds) (k:Nat):VL Q F (List.replicate k vs).flatten (List.replicate k ds).flatten:=by
 induction k with
 | zero=>exact .nil
 | succ k ih=>rw [List.replicate_succ,List.replicate_succ,List.flatten_cons,List.flatten_cons];exact vl_app ih h
theorem sl {n:Nat} (h:n≤2^23):n≤sizeLine:=Nat.le_trans h (by rw [sizeLine_eq];decide)
theorem sl3 {n:Nat} (h:n≤1000):n≤sizeLine:=sl (Nat.le_trans h (by decide))
theorem new_lst {vs:Array Value} {l:List AV} (a:At Q env ρ σ p) (h:VL Q p.W.F vs.toList l) {G:Value→Shared→Prop} (k:∀ (q:Po) (D:Addr),At Q env ρ ((D,.lst l)::σ) q→Bh none p q→G (.ref D) q.s):G (.ref p.s.heap.objs.size) { p.s with heap:=p.s.heap.push { cls:=.type "list",data:=.seq vs } }:=
 have x:Bh none p ⟨p.W.add p.s.heap.objs.size,{ p.s with heap:=p.s.heap.push { cls:=.type "list",data:=.seq vs } }⟩:=Ext.pushC p.W p.s { cls:=.type "list",data:=.seq vs } p.s.toks
 k ⟨p.W.add p.s.heap.objs.size,_⟩ _ (a.ext x (a.I.pushC (c:=.lst l) rfl ⟨vs,_,Heap.get?_push_size _ rfl,h,Wd.add_self⟩)) x
theorem new_tup {vs:Array Value} {l:List AV} (a:At Q env ρ σ p) (h:VL Q p.W.F vs.toList l) {G:Value→Shared→Prop} (k:∀ (q:Po) (x:Value),At Q env ρ σ q→Bh none p q→V Q q.W.F x (.tup l)→G x q.s):G (.ref p.s.heap.objs.size) { p.s with heap:=p.s.heap.push { cls:=.type "tuple",data:=.seq vs } }:=
 have x:Bh none p ⟨p.W.freeze p.s.heap.objs.size { cls:=.type "tuple",data:=.seq vs },{ p.s with heap:=p.s.heap.push { cls:=.type "tuple",data:=.seq vs } }⟩:=Ext.pushF a.I { cls:=.type "tuple",data:=.seq vs } p.s.toks
 k ⟨p.W.freeze p.s.heap.objs.size _,_⟩ _ (a.ext x (a.I.pushF rfl)) x (.tup Wd.freeze_self (h.mono (Wd.freeze_le a.I.F_none)))
theorem int_ok {op:Operator} {i j:Int} {K:AV→Prop} {t t':Tok} {G:Value→Shared→Prop} (h:intR op i j K) (k:∀ d x t,V Q p.W.F x d→K d→G x (p.tok t).s):WP Q A (binaryOp op (.int i t) (.int j t')) G p.s:=by
 cases op with
 | Add=>exact PyProof.Rows.add_int (k _ _ _ (.int _ _) h)
 | Sub=>exact PyProof.Rows.sub_int' (k _ _ _ (.int _ _) h)
 | BitAnd=>exact PyProof.Rows.and_int (k _ _ _ (.int _ _) h)
 | BitOr=>exact PyProof.Rows.or_int (k _ _ _ (.int _ _) h)
 | BitXor=>exact PyProof.Rows.xor_int (k _ _ _ (.int _ _) h)
 | Mult=>exact PyProof.Rows.mul_int (k _ _ _ (.int _ _) h.ok.2) h.ok.1
 | Mod=>exact PyProof.Rows.mod_int' h.ok.1 (k _ _ _ (.int _ _) h.ok.2)
 | FloorDiv=>exact PyProof.Rows.floordiv_int h.ok.1.1 (k _ _ _ (.int _ _) h.ok.2) (.inl (PyProof.noPylong_of_log2 h.ok.1.2))
 | LShift=>exact PyProof.Rows.lshift_int h.ok.1.1 h.ok.1.2 (k _ _ _ (.int _ _) h.ok.2)
 | RShift=>exact PyProof.Rows.rshift_int h.ok.1 (k _ _ _ (.int _ _) h.ok.2)
 | Pow=>exact PyProof.Rows.pow_int h.ok.1.1 h.ok.1.2 (k _ _ _ (.int _ _) h.ok.2)
 | _=>exact h.elim
theorem listRep {x:Addr} {us:Array Value} {m:Nat} {k:Int} {t:Tok} {G:Value→Shared→Prop} (ho:p.s.heap.get? x=some (PySem.W.listOf us m)) (h:0 < us.size∧0≤k∧us.size≤100∧k≤100) (hG:G (.ref p.s.heap.objs.size) { p.s with heap:=p.s.heap.push { cls:=.type "list",data:=.seq (List.replicate k.toNat us.toList).flatten.toArray } }):
  WP Q A (binaryOp .Mult (.ref x) (.int k t)) G p.s:=by
 obtain ⟨h0,hk0,hz1,hz2⟩:=h
 have hsz:us.size*k.toNat≤100*100:=Nat.mul_le_mul hz1 (Int.toNat_le.mpr hz2)
 refine wpAny_binaryOp_repeat_ref (T:="list") (U:="int") (by decide) ⟨_,ho,rfl⟩ (fun s'=>typeIs_int s' k t) PySem.noFill_list_mul PySem.F.fills_int_mul PySem.F.slot_int_rmul PySem.repeat_list PySem.F.slot_int_index.lookup
  (call_meets PySem.F.slot_int_rmul (typeIs_int _ k t) PySem.F.entry_int_rmul (PySem.F.args_int_rmul_2 _ _) (PySem.int___rmul___int_list k t x us m)
   ⟨ho,rfl,⟨_,ho,rfl⟩,call_meets PySem.F.slot_list_mul ⟨_,ho,rfl⟩ PySem.F.entry_list_mul (PySem.F.args_list_mul_2 _ _)
    (AutoListH.list___mul___list_int_3 x us m k t (by simp [Builtin.List.listFitsIndex];lia) (by lia) (by simp [Builtin.List.listTooLong,sizeLine];lia))
    ⟨ho,?_⟩⟩)
 have hne:us.isEmpty=false:=by
  cases q:us.isEmpty with
  | false=>rfl
  | true=>rw [Array.isEmpty_iff] at q;subst q;exact absurd h0 (by decide)
 rw [hne]
 simp only [Bool.false_eq_true,if_false,listMul_foldl,List.nil_append]
 exact hG
theorem bin_ok {op:Operator} {K:AV→St→Prop} {G:Value→Shared→Prop} (h:binR op a b σ K) (at_:At Q env ρ σ p) (hu:V Q p.W.F u a) (hv:V Q p.W.F v b)
  (k:∀ σ' q x d,At Q env ρ σ' q→Bh none p q→V Q q.W.F x d→K d σ'→G x q.s):WP Q A (binaryOp op u v) G p.s:=by
 refine (alt_or h).elim (fun h1=>?_) fun h1=>?_
 ·obtain ⟨j,e,h1⟩:=h1
  obtain ⟨t',rfl⟩:=v_int (toI_some e▸hv)
  refine (alt_or h1).elim (fun h1=>?_) fun h1=>?_
  ·obtain ⟨i,e,h1⟩:=h1
   obtain ⟨t,rfl⟩:=v_int (toI_some e▸hu)
   exact int_ok (K:=fun d=>K d σ) h1 fun d x t hx q=>k σ _ x d (at_.tok t) (Bh.tok (Bh.refl _ p) t) hx q
  ·obtain ⟨x,e,h1⟩:=opt_some h1
   obtain rfl:=v_ref (toR_some e▸hu)
   cases op with
   | Mult=>
    obtain ⟨c,hc,h1⟩:=lk_cell at_.I h1.ok
    obtain ⟨la,rfl,h1⟩:=asL_lst h1
    obtain ⟨us,m,ho,hl,_⟩:=hc
    exact listRep ho (by rw [vl_size hl];exact h1.1) (new_lst at_ (l:=(List.replicate j.toNat la).flatten) (vl_rep hl _) fun q D a' x=>k _ q _ _ a' x (.ref D) (h1.2 D))
   | _=>exact h1.elim
 ·cases op with
  | Add=>
   refine (alt_or h1).elim (fun h1=>?_) fun h1=>?_
   ·obtain ⟨x,e,h1⟩:=h1
    obtain ⟨y,e',h1⟩:=opt_some h1
    obtain ⟨t,rfl⟩:=v_str (toS_some e▸hu)
    obtain ⟨t',rfl⟩:=v_str (toS_some e'▸hv)
    exact PyProof.Rows.add_str (fun t' tk=>k σ _ _ _ (at_.tok tk) (Bh.tok (Bh.refl _ p) tk) (.str _ _) h1.ok.2) (sl3 h1.ok.1)
   ·obtain ⟨x,e,h1⟩:=opt_some h1
    obtain ⟨y,e',h1⟩:=opt_some h1
    obtain rfl:=v_ref (toR_some e▸hu)
    obtain rfl:=v_ref (toR_some e'▸hv)
    obtain ⟨c,hc,h1⟩:=lk_cell at_.I h1.ok
    obtain ⟨la,rfl,h1⟩:=asL_lst h1
    obtain ⟨us,m,ho,hl,_⟩:=hc
    obtain ⟨c,hc,h1⟩:=lk_cell at_.I h1
    obtain ⟨lb,rfl,h1⟩:=asL_lst h1
    obtain ⟨us',m',ho',hl',_⟩:=hc
    exact PySem.P.add_list ho ho' (new_lst at_ (l:=la++lb) (by rw [Array.toList_append];exact vl_app hl' hl) fun q D a' x=>k _ q _ _ a' x (.ref D) (h1.2 D)) (by rw [vl_size hl,vl_size hl'];exact sl3 h1.1)
  | _=>exact h1.elim
theorem icmp_ok {op:CmpOp} {i j:Int} {K:Bool→Prop} {t t':Tok} {G:Value→Shared→Prop} (h:icmpR op i j K) (k:∀ c t,K c→G (.bool c) (p.tok t).s):WP Q A (compareOp op (.int i t) (.int j t')) G p.s:=by
 cases op with
 | Eq=>exact PyProof.Rows.eq_int (k _ _ h)
 | NotEq=>exact PyProof.Rows.ne_int (k _ _ h)
 | Lt=>exact PyProof.Rows.lt_int (k _ _ h)
 | LtE=>exact PyProof.Rows.le_int (k _ _ h)
 | Gt=>exact PyProof.Rows.gt_int (k _ _ h)
 | GtE=>exact PyProof.Rows.ge_int (k _ _ h)
 | _=>exact h.elim
theorem cmpS_ok {op:CmpOp} {K:Bool→Prop} {G:Value→Shared→Prop} (h:CmpS Q σ op a b K) (r:Room A n) (I:Inv Q p.W σ p.s.heap) (hu:V Q p.W.F u a) (hv:V Q p.W.F v b) (k:∀ c t,K c→G (.bool c) (p.tok t).s):WP Q A (compareOp op u v) G p.s:=
 h.elim fun c q=>q.1 A p u v G r.hd r.units64 I hu hv fun t=>k c t q.2
theorem cmp_ok {op:CmpOp} {K:Bool→Prop} {G:Value→Shared→Prop} (h:cmpR Q op a b σ K) (r:Room A n) (I:Inv Q p.W σ p.s.heap) (hu:V Q p.W.F u a) (hv:V Q p.W.F v b) (k:∀ c t,K c→G (.bool c) (p.tok t).s):WP Q A (compareOp op u v) G p.s:=by
 refine (alt_or h).elim (fun h1=>?_) fun h1=>cmpS_ok h1.ok r I hu hv k
 obtain ⟨i,e,h1⟩:=h1
 refine (alt_or h1).elim (fun h1=>?_) fun h1=>cmpS_ok h1.ok r I hu hv k
 obtain ⟨j,e',h1⟩:=h1
 obtain ⟨t,rfl⟩:=v_int (toI_some e▸hu)
 obtain ⟨t',rfl⟩:=v_int (toI_some e'▸hv)
 exact icmp_ok h1 k
theorem un_ok {op:UnaryOp} {K:AV→Prop} {G:Value→Shared→Prop} (h:unR op a K) (hu:V Q p.W.F u a) (k:∀ d x t,V Q p.W.F x d→K d→G x (p.tok t).s):WP Q A (unaryOp op u) G p.s:=by
 refine (alt_or h).elim (fun h1=>?_) fun h1=>?_
 ·obtain ⟨i,e,h1⟩:=h1
  obtain ⟨t,rfl⟩:=v_int (toI_some e▸hu)
  cases op with
  | USub=>exact PyProof.Rows.neg_int (k _ _ _ (.int _ _) h1)
  | _=>exact h1.elim
 ·obtain ⟨b,e,h1⟩:=opt_some h1
  obtain rfl:=v_bool (toB_some e▸hu)
  cases op with
  | Not=>exact not_of (wpAny_truthy_bool (k _ _ p.s.toks (.bool _) h1))
  | _=>exact h1.elim
theorem tru_ok {K:Bool→Prop} {G:Bool→Shared→Prop} (h:truR a K) (hu:V Q p.W.F u a) (k:∀ c,K c→G c p.s):WP Q A (truthy u) G p.s:=by
 refine (alt_or h).elim (fun h1=>?_) fun h1=>?_
 ·obtain ⟨b,e,h1⟩:=h1
  obtain rfl:=v_bool (toB_some e▸hu)
  exact wpAny_truthy_bool (k _ h1)
 ·obtain ⟨e,h1⟩:=bif_true h1
  obtain rfl:=v_none (isN_true e▸hu)
  exact truthy_none (k _ h1)
end
section
variable {Q:Bt} {n:Nat} {env:Env} {σ:St} {ρ:Rho} {K:AV→Rho→St→Prop} {KT:Bool→Rho→St→Prop}
theorem e_con {c:Const} {k:Nat} {p:Pos} (h:conR c fun d=>K d ρ σ):WE Q n env (.Constant c k p) ρ σ K:=by
 cases c with
 | int i=>exact WX.look h fun A p G r a k=>wpAny_Constant_int (k _ _ (.int _ _))
 | str i=>exact WX.look h fun A p G r a k=>Constant_str (k _ _ (.str _ _))
 | bool i=>exact WX.look h fun A p G r a k=>Constant_bool (k _ p.s.toks (.bool _))
 | none=>exact WX.look h fun A p G r a k=>Constant_none (k _ p.s.toks .none)
 | bytes b=>exact WX.look h fun A p G r a k=>PySem.W.Constant_bytes (k _ _ (.byt _ _))
 | _=>exact h.elim
theorem e_bin {op:Operator} {l r:Expr} {p:Pos} (h:WE Q n env l ρ σ fun a ρ σ=>WE Q n env r ρ σ fun b ρ σ=>binR op a b σ fun d σ=>K d ρ σ):WE Q n env (.BinOp l op r p) ρ σ K:=
 fun A p G R o k=>wpAny_BinOp (h A p _ R o fun _ _ p₁ u a o₁ x₁ r₁ h₁=>h₁ A p₁ _ R o₁ fun ρ₂ σ₂ p₂ v b o₂ x₂ r₂ h₂=>bin_ok h₂ o₂ (x₂.V r₁) r₂ fun σ' q x d a' x' hx φ=>k ρ₂ σ' q x d a' ((x₁.trans x₂).trans x'.wide) hx φ)
theorem e_un {op:UnaryOp} {x:Expr} {p:Pos} (h:WE Q n env x ρ σ fun a ρ σ=>unR op a fun d=>K d ρ σ):WE Q n env (.UnaryOp op x p) ρ σ K:=
 fun A p G R o k=>UnaryOp_ (h A p _ R o fun ρ₁ σ₁ p₁ u a o₁ x₁ r₁ h₁=>un_ok h₁ r₁ fun d x t hx φ=>k ρ₁ σ₁ _ x d (o₁.tok t) (x₁.tok t) hx φ)
theorem e_cmp {op:CmpOp} {l r:Expr} {p:Pos} (h:WE Q n env l ρ σ fun a ρ σ=>WE Q n env r ρ σ fun b ρ σ=>cmpR Q op a b σ fun c=>K (.bool c) ρ σ) (hm:behindInMarks op r=false):WE Q n env (.Compare l [op] [r] p) ρ σ K:=
 fun A p G R o k=>wpAny_Compare1 (h A p _ R o fun _ _ p₁ u a o₁ x₁ r₁ h₁=>h₁ A p₁ _ R o₁ fun ρ₂ σ₂ p₂ v b o₂ x₂ r₂ h₂=>cmp_ok h₂ R o₂.I (x₂.V r₁) r₂ fun c t φ=>k ρ₂ σ₂ _ _ _ (o₂.tok t) ((x₁.trans x₂).tok t) (.bool c) φ) hm
theorem t_cmp {op:CmpOp} {l r:Expr} {p:Pos} (h:WE Q n env l ρ σ fun a ρ σ=>WE Q n env r ρ σ fun b ρ σ=>cmpR Q op a b σ fun c=>KT c ρ σ) (hm:behindInMarks op r=false):WT Q n env (.Compare l [op] [r] p) ρ σ KT:=
 fun A p G R o k=>wpAny_isTrue_Compare1 (h A p _ R o fun _ _ p₁ u a o₁ x₁ r₁ h₁=>h₁ A p₁ _ R o₁ fun ρ₂ σ₂ p₂ v b o₂ x₂ r₂ h₂=>cmp_ok h₂ R o₂.I (x₂.V r₁) r₂ fun c t φ=>wpAny_truthy_bool (k ρ₂ σ₂ _ c c (o₂.tok t) ((x₁.trans x₂).tok t) rfl φ)) hm
theorem br {α β:Type} {R:FH→α→β→Prop} {A:Around} {p p₁:Po} {G:α→Shared→Prop} {t:Sem α} {ρ₁:Rho} {σ₁:St} {Φ:β→Rho→St→Prop} (h:WX Q n env R t ρ₁ σ₁ Φ) (r:Room A n) (o₁:At Q env ρ₁ σ₁ p₁) (x₁:Bh (some env.locals) p p₁)
  (k:∀ (ρ':Rho) (σ':St) (q:Po) (x:α) (y:β),At Q env ρ' σ' q→Bh (some env.locals) p q→R q.W.F x y→Φ y ρ' σ'→G x q.s):WP Q A t G p₁.s:=
 h A p₁ G r o₁ fun ρ₂ σ₂ p₂ x y o₂ x₂ c φ=>k ρ₂ σ₂ p₂ x y o₂ (x₁.trans x₂) c φ
theorem e_ife {t b o:Expr} {p:Pos} (h:WT Q n env t ρ σ fun c ρ σ=>Br c (WE Q n env b ρ σ K) (WE Q n env o ρ σ K)):WE Q n env (.IfExp t b o p) ρ σ K:=
 fun A p G R a k=>IfExp_ (h A p _ R a fun ρ₁ σ₁ p₁ c c' o₁ x₁ e h₁=>by
  subst e
  cases c with
  | true=>exact br h₁ R o₁ x₁ k
  | false=>exact br h₁ R o₁ x₁ k)
theorem e_chn {a m z:Expr} {o₁ o₂:CmpOp} {p:Pos} (h:WE Q n env a ρ σ fun x ρ σ=>WE Q n env m ρ σ fun y ρ σ=>cmpR Q o₁ x y σ fun c=>Br c (WE Q n env z ρ σ fun z ρ σ=>cmpR Q o₂ y z σ fun c=>K (.bool c) ρ σ) (K (.bool false) ρ σ))
  (hm:lastMarks [o₁,o₂] [m,z]=false):WE Q n env (.Compare a [o₁,o₂] [m,z] p) ρ σ K:=
 fun A p G R o k=>Compare_chain (h A p _ R o fun _ _ p₁ u a o₁ x₁ r₁ h₁=>chain_link (h₁ A p₁ _ R o₁ fun ρ₂ σ₂ p₂ v b o₂ x₂ r₂ h₂=>cmp_ok h₂ R o₂.I (x₂.V r₁) r₂ fun c t φ=>wpAny_truthy_bool (by
  cases c with
  | false=>exact k ρ₂ σ₂ _ _ _ (o₂.tok t) ((x₁.trans x₂).tok t) (.bool _) φ
  | true=>exact chain_last (φ A _ _ R (o₂.tok t) fun ρ₃ σ₃ p₃ w d o₃ x₃ r₃ h₃=>cmp_ok h₃ R o₃.I (x₃.V r₂) r₃ fun c t' φ=>k ρ₃ σ₃ _ _ _ (o₃.tok t') ((((x₁.trans x₂).tok t).trans x₃).tok t') (.bool c) φ)))) hm
theorem t_chn {a m z:Expr} {o₁ o₂:CmpOp} {p:Pos} (h:WE Q n env a ρ σ fun x ρ σ=>WE Q n env m ρ σ fun y ρ σ=>cmpR Q o₁ x y σ fun c=>Br c (WE Q n env z ρ σ fun z ρ σ=>cmpR Q o₂ y z σ fun c=>KT c ρ σ) (KT false ρ σ))
  (hm:lastMarks [o₁,o₂] [m,z]=false):WT Q n env (.Compare a [o₁,o₂] [m,z] p) ρ σ KT:=
 fun A p G R o k=>isTrue_chain (h A p _ R o fun _ _ p₁ u a o₁ x₁ r₁ h₁=>test_link (h₁ A p₁ _ R o₁ fun ρ₂ σ₂ p₂ v b o₂ x₂ r₂ h₂=>cmp_ok h₂ R o₂.I (x₂.V r₁) r₂ fun c t φ=>wpAny_truthy_bool (by
  cases c with
  | false=>exact k ρ₂ σ₂ _ _ _ (o₂.tok t) ((x₁.trans x₂).tok t) rfl φ
  | true=>exact test_last (φ A _ _ R (o₂.tok t) fun ρ₃ σ₃ p₃ w d o₃ x₃ r₃ h₃=>cmp_ok h₃ R o₃.I (x₃.V r₂) r₃ fun c t' φ=>wpAny_truthy_bool (k ρ₃ σ₃ _ _ _ (o₃.tok t') ((((x₁.trans x₂).tok t).trans x₃).tok t') rfl φ))))) hm
theorem e_one {op:BoolOp} {x:Expr} {p:Pos} (h:WE Q n env x ρ σ K):WE Q n env (.BoolOp op [x] p) ρ σ K:=fun A p G R a k=>BoolOp_one (h A p G R a k)
theorem e_or {x y:Expr} {r:List Expr} {p:Pos} (h:WE Q n env x ρ σ fun d ρ σ=>truR d fun c=>Br c (K d ρ σ) (WE Q n env (.BoolOp .Or (y::r) p) ρ σ K)):WE Q n env (.BoolOp .Or (x::y::r) p) ρ σ K:=
 fun A p G R a k=>BoolOp_or (h A p _ R a fun ρ₁ σ₁ p₁ u d o₁ x₁ r₁ h₁=>tru_ok h₁ r₁ fun c φ=>by
  cases c with
  | true=>exact k ρ₁ σ₁ p₁ u d o₁ x₁ r₁ φ
  | false=>exact br φ R o₁ x₁ k)
theorem t_not {x:Expr} {p:Pos} (h:WT Q n env x ρ σ fun c ρ σ=>KT (!c) ρ σ):WT Q n env (.UnaryOp .Not x p) ρ σ KT:=fun A p G R a k=>isTrue_not (h A p _ R a fun ρ₁ σ₁ p₁ c c' o₁ x₁ e h₁=>k ρ₁ σ₁ p₁ _ _ o₁ x₁ (congrArg _ e) h₁)
theorem t_and0 {p:Pos} (h:KT true ρ σ):WT Q n env (.BoolOp .And [] p) ρ σ KT:=fun A q G R a k=>isTrue_and_nil (k ρ σ q _ _ a (Bh.refl _ _) rfl h)
theorem t_or0 {p:Pos} (h:KT false ρ σ):WT Q n env (.BoolOp .Or [] p) ρ σ KT:=fun A q G R a k=>isTrue_or_nil (k ρ σ q _ _ a (Bh.refl _ _) rfl h)
theorem t_and {x:Expr} {r:List Expr} {p:Pos} (h:WT Q n env x ρ σ fun c ρ σ=>Br c (WT Q n env (.BoolOp .And r p) ρ σ KT) (KT false ρ σ)):WT Q n env (.BoolOp .And (x::r) p) ρ σ KT:=
 fun A p' G R a k=>isTrue_and (h A p' _ R a fun ρ₁ σ₁ p₁ c c' o₁ x₁ e h₁=>by
  subst e
  cases c with
  | true=>exact (show WT Q n env (.BoolOp .And r p) ρ₁ σ₁ KT from h₁) A p₁ G R o₁ fun ρ₂ σ₂ p₂ x y o₂ x₂ c φ=>k ρ₂ σ₂ p₂ x y o₂ (x₁.trans x₂) c φ
  | false=>exact k ρ₁ σ₁ p₁ _ _ o₁ x₁ rfl h₁)
theorem t_or {x:Expr} {r:List Expr} {p:Pos} (h:WT Q n env x ρ σ fun c ρ σ=>Br c (KT true ρ σ) (WT Q n env (.BoolOp .Or r p) ρ σ KT)):WT Q n env (.BoolOp .Or (x::r) p) ρ σ KT:=
 fun A p' G R a k=>isTrue_or (h A p' _ R a fun ρ₁ σ₁ p₁ c c' o₁ x₁ e h₁=>by
  subst e
  cases c with
  | false=>exact (show WT Q n env (.BoolOp .Or r p) ρ₁ σ₁ KT from h₁) A p₁ G R o₁ fun ρ₂ σ₂ p₂ x y o₂ x₂ c φ=>k ρ₂ σ₂ p₂ x y o₂ (x₁.trans x₂) c φ
  | true=>exact k ρ₁ σ₁ p₁ _ _ o₁ x₁ rfl h₁)
theorem t_plain {e:Expr} (h:WE Q n env e ρ σ fun a ρ σ=>truR a fun c=>KT c ρ σ) (hp:∀ s,isTrue e env s=(do let v ← s;standAt e.pos;holding [v] (truthy v))):WT Q n env e ρ σ KT:=
 fun A p G R o k=>by
  show WP Q A (isTrue e env (eval e env)) G p.s
  rw [hp]
  exact wpAny_bind (h A p _ R o fun ρ₁ σ₁ p₁ u a o₁ x₁ r₁ h₁=>wpAny_bind (wpAny_standAt (wpAny_holding (tru_ok h₁ r₁ fun c φ=>k ρ₁ σ₁ p₁ c c o₁ x₁ rfl φ))))
theorem l_nil {Φ:List AV→Rho→St→Prop} (h:Φ [] ρ σ):WL Q n env [] ρ σ Φ:=fun pos A p G R a k=>spliced_none (k ρ σ p _ _ a (Bh.refl _ _) .nil h)
theorem l_cons {e:Expr} {r:List Expr} {Φ:List AV→Rho→St→Prop} (h:WE Q n env e ρ σ fun a ρ σ=>WL Q n env r ρ σ fun l ρ σ=>Φ (a::l) ρ σ) (he:starEach (e::r) env=(false,eval e env)::starEach r env):WL Q n env (e::r) ρ σ Φ:=fun pos A p G R a k=>
 spliced_more (h A p _ R a fun _ _ p₁ u d o₁ x₁ r₁ h₁=>h₁ pos A p₁ _ R o₁ fun ρ₂ σ₂ p₂ vs l o₂ x₂ r₂ h₂=>k ρ₂ σ₂ p₂ _ _ o₂ (x₁.trans x₂) (.cons (x₂.V r₁) r₂) h₂) he
theorem e_tup {es:List Expr} {k:Nat} {p:Pos} (h:WL Q n env es ρ σ fun l ρ σ=>bif Nat.ble l.length 1000 then K (.tup l) ρ σ else False):WE Q n env (.Tuple es k p) ρ σ K:=fun A q G R a k'=>by
 show WP Q A (standAt p>>=fun _=>spliced (backTo p (starEach es env))>>=fun vs=>newTuple vs) G q.s
 refine wpAny_bind (wpAny_standAt (wpAny_bind (h p A q _ R a fun ρ₁ σ₁ p₁ vs l o₁ x₁ r₁ h₁=>?_)))
 obtain ⟨e,h₁⟩:=bif_true h₁
 exact wpAny_newTuple (new_tup (vs:=vs.toArray) o₁ r₁ fun q x o x' hx=>k' _ _ q x _ o (x₁.trans x'.wide) hx h₁) (by rw [vl_len r₁];exact sl3 (Nat.le_of_ble_eq_true e))
end
end
section
open Builtin Builtin.ObjectAttr
set_option tactic.hygienic false
theorem lay_all:(layT.all fun p=>(p.2.all fun t=>atTab.contains (p.1,aN t))&&decide (p.2.map aN).Nodup)=true:=by kernel_rfl
theorem lookup_mem {α:Type} {l:List (Nat × α)} {k:Nat} {x:α} (h:l.lookup k=some x):(k,x)∈l:=by
 induction l with
 | nil=>first|exact ffE h|exact tfE h|exact noE h|cases h
 | cons p l ih=>
  rw [List.lookup_cons] at h
  cases e:k==p.1 with
  | true=>rw [e] at h;cases h;rw [eq_of_beq e];exact .head _
  | false=>rw [e] at h;exact .tail _ (ih h)
theorem lay_900 (k:Nat):(lay k).length≤900:=by
 unfold lay
 cases e:layT.lookup k with
 | none=>exact Nat.zero_le _
 | some ls=>exact Nat.le_of_ble_eq_true (List.all_eq_true.mp (show (layT.all fun p=>Nat.ble p.2.length 900)=true by decide) _ (lookup_mem e))
theorem lay_ok (k:Nat):(∀ t∈lay k,(k,aN t)∈atTab)∧((lay k).map aN).Nodup:=by
 unfold lay
 cases e:layT.lookup k with
 | none=>exact ⟨fun t h=>(nomatch h),List.nodup_nil⟩
 | some ls=>
  obtain ⟨h1,h2⟩:=Bool.and_eq_true_iff.mp (List.all_eq_true.mp lay_all _ (lookup_mem e))
  exact ⟨fun t ht=>List.contains_iff_mem.mp (List.all_eq_true.mp h1 t ht),of_decide_eq_true h2⟩
section
variable {Q:Bt} {F:FH} {t:Nat} {tk:Tok} {v:Value} {d:AV}
theorem vf_len {ns:List Str} {fs:List AV} {es:List DictEntry} (h:VF Q F es ns fs):es.length=fs.length:=by
 induction fs generalizing es ns with
 | nil=>cases h;rfl
 | cons d fs ih=>cases h with|cons _ r=>exact congrArg (·+1) (ih r)
theorem vf_noref {ns:List Str} {fs:List AV} {es:List DictEntry} (h:VF Q F es ns fs):es.any (·.refKey)=false:=by
 induction fs generalizing es ns with
 | nil=>cases h;rfl
 | cons d fs ih=>cases h with|cons _ r=>rw [List.any_cons,ih r];rfl
theorem isStr_self {x:Str} {tk:Tok}:(Value.str x tk).isStr x=true:=beq_self_eq_true x
theorem isStr_ne {x y:Str} {tk:Tok} (h:x≠y):(Value.str x tk).isStr y=false:=beq_eq_false_iff_ne.mpr h
theorem vf_get {ls:List Nat} {fs:List AV} {es:List DictEntry} (nd:(ls.map aN).Nodup) (h:VF Q F es (ls.map aN) fs) (hg:getF t ls fs=some d):
  t∈ls∧∃ tk v,es.find? (·.key.isStr (aN t))=some ⟨PyData.keyHash Q.P (aN t),.str (aN t) tk,v⟩∧V Q F v d:=by
 induction ls generalizing fs es with
 | nil=>first|exact ffE hg|exact tfE hg|exact noE hg|cases hg
 | cons u ls ih=>
  cases fs with
  | nil=>first|exact ffE hg|exact tfE hg|exact noE hg|cases hg
  | cons x fs=>
   cases h with|cons h r=>
   rw [List.map_cons,List.nodup_cons] at nd
   unfold getF at hg
   cases e:Nat.beq u t with
   | true=>
    rw [e] at hg
    cases hg
    cases Nat.eq_of_beq_eq_true e
    exact ⟨.head _,_,_,List.find?_cons_of_pos isStr_self,h⟩
   | false=>
    rw [e] at hg
    obtain ⟨m,tk,v,e',hv⟩:=ih nd.2 r hg
    exact ⟨.tail _ m,tk,v,(List.find?_cons_of_neg (by rw [isStr_ne fun q:aN u=aN t=>nd.1 (q▸List.mem_map_of_mem m)];exact Bool.false_ne_true)).trans e',hv⟩
theorem vf_put {ls:List Nat} {i:Nat} {fs fs':List AV} {es:List DictEntry} (nd:(ls.map aN).Nodup) (h:VF Q F es (ls.map aN) fs) (hi:ixF t ls=some i) (hp:putA d i fs=some fs') (hv:V Q F v d):
  t∈ls∧∀ tk,VF Q F (putL (aN t) (PyData.keyHash Q.P (aN t)) (.str (aN t) tk) v es) (ls.map aN) fs':=by
 induction ls generalizing fs es i fs' with
 | nil=>first|exact ffE hi|exact tfE hi|exact noE hi|cases hi
 | cons u ls ih=>
  rw [List.map_cons,List.nodup_cons] at nd
  unfold ixF at hi
  cases e:Nat.beq u t with
  | true=>
   rw [e] at hi
   cases hi
   cases Nat.eq_of_beq_eq_true e
   refine ⟨.head _,fun tk=>?_⟩
   cases fs with
   | nil=>cases h;cases hp;exact .cons hv .nil
   | cons x fs=>
    cases h with|cons h r=>
    cases hp
    unfold putL
    rw [if_pos isStr_self]
    exact .cons hv r
  | false=>
   rw [e] at hi
   obtain ⟨j,hj,rfl⟩:=Option.map_eq_some_iff.mp hi
   cases fs with
   | nil=>first|exact ffE hp|exact tfE hp|exact noE hp|cases hp
   | cons x fs=>
    cases h with|cons h r=>
    obtain ⟨fs'',hp',rfl⟩:=Option.map_eq_some_iff.mp hp
    obtain ⟨m,q⟩:=ih nd.2 r hj hp'
    refine ⟨.tail _ m,fun tk=>?_⟩
    unfold putL
    rw [if_neg (by rw [isStr_ne fun q:aN u=aN t=>nd.1 (q▸List.mem_map_of_mem m)];exact Bool.false_ne_true)]
    exact .cons h (q tk)
end
section
variable {Q:Bt} {n:Nat} {A:Around} {env:Env} {σ:St} {ρ:Rho} {p:Po} {W:Wd} {s:Shared} {x dx:Addr} {k t:Nat} {es:List DictEntry} {m:Nat} {fs:List AV} {d:AV} {expr:Bool}
theorem Cx.atr (X:Cx Q) {k t:Nat} (h:t∈lay k):attrIn Q.K (cT k) (aN t)=true:=X.at_ (k,aN t) ((lay_ok k).1 t h)
theorem Cx.sto (X:Cx Q) {k t:Nat} (h:t∈lay k):storeIn Q.K (cT k) (aN t)=true:=X.sa (k,aN t) ((lay_ok k).1 t h)
theorem getAttr_own (X:Cx Q) {G:Value→Shared→Prop} (I:Inv Q W σ s.heap) (hx:s.heap.get? x=some (instObj (cT k) dx)) (hdx:s.heap.get? dx=some (dictOf es m)) (hv:VF Q W.F es (fN k) fs) (hg:getF t (lay k) fs=some d) (hd:∀ m,d≠.blt m)
  (h:∀ v,V Q W.F v d→G v { s with toks:=s.toks+1 }):WP Q A (getAttr (.ref x) (aN t) expr) G s:=by
 obtain ⟨mem,tk,v,e,hvd⟩:=vf_get (lay_ok k).2 hv hg
 have ha:=X.atr mem
 simp only [attrIn,Bool.and_eq_true,beq_iff_eq] at ha
 obtain ⟨⟨a1,a2⟩,a3⟩:=ha
 obtain ⟨cd,hc,hh⟩:=any_some a3
 have hi:InstAt s.heap x (instObj (cT k) dx) (cT k) (some (dictOf es m)):=⟨hx,rfl,rfl,hdx⟩
 have hl:lookIn (aN t) (dictOf es m)=some (some v):=by unfold lookIn;dsimp only;rw [e]
 have hf:findObj Q.K (cT k) (some (dictOf es m)) (aN t)=some (.value v):=by
  unfold findObj
  rw [hc,Option.bind_some,a2,Option.bind_some]
  dsimp only [Option.bind_some]
  unfold PySem.W.ownOf
  rw [if_pos hh]
  dsimp only
  rw [hl];rfl
 refine get_value (X.X.keeps I.keepB) hi a1 hf ?_ (h v hvd)
 cases hvd<;>first|rfl|exact absurd rfl (hd _)
theorem putL_len (a:Str) (b:_) (c v:Value) (es:List DictEntry):(putL a b c v es).length≤es.length+1:=by
 induction es with
 | nil=>exact Nat.le_refl _
 | cons e r ih=>unfold putL;split<;>first|exact Nat.le_succ _|exact Nat.succ_le_succ ih
theorem setAttr_own (X:Cx Q) {v:Value} {G:Unit→Shared→Prop} (I:Inv Q W σ s.heap) (hx:s.heap.get? x=some (instObj (cT k) dx)) (hdx:s.heap.get? dx=some (dictOf es m)) (hvf:VF Q W.F es (fN k) fs) (ht:t∈lay k) (hz:fs.length≤900)
  (h:∀ h' tk tx,h'.get? dx=some (dictOf (putL (aN t) (PyData.keyHash Q.P (aN t)) (.str (aN t) tx) v es) (putN (aN t) es m))→Heap.SameBut dx s.heap h'→G () { s with heap:=h',toks:=tk }):WP Q A (setAttr (.ref x) (aN t) v) G s:=by
 have ha:=X.sto ht
 simp only [storeIn,Bool.and_eq_true,beq_iff_eq] at ha
 obtain ⟨⟨⟨a1,a2⟩,a3⟩,a4⟩:=ha
 obtain ⟨hh,g0,d0,t0,o0⟩:=s
 dsimp only at I hx hdx h
 have X':=X.X.keeps I.keepB
 have hi:InstAt hh x (instObj (cT k) dx) (cT k) (some (dictOf es m)):=⟨hx,rfl,rfl,hdx⟩
 refine set_plain X' hi a1 ?_
 refine osa_open (s:=⟨hh,g0,d0,t0+1,o0⟩) X' hi a2 a3 fun b=>?_
 obtain ⟨cd,hc,hd'⟩:=any_some a4
 refine wpAny_bind (wpAny_pure (wpAny_bind (wpAny_bind (wpAny_loadPart hx (wpAny_bind ((looks_clsIn X' hc).at ?_))))))
 rw [hd']
 refine wpAny_pure (a:=some dx) (wpAny_bind (wpAny_pure (wpAny_bind ?_)))
 unfold nsSet
 refine wpAny_bind (wpAny_bind (wpAny_askSetting (wpAny_pure (wpAny_bind (wpAny_mkText (wpAny_bind (wpAny_loadPart hdx ?_)))))))
 dsimp only
 have c:(!es.toArray.any (·.key.isStr (aN t))&&es.toArray.any (·.refKey))=false:=by
  rw [List.any_toArray,List.any_toArray,vf_noref hvf,Bool.and_false]
 rw [aRefKeyMayBeTheName_at,c]
 have ge:(hh.update dx (Obj.putName (aN t) (PyData.keyHash Q.P (aN t)) (.str (aN t) (t0+1)) v)).get? dx=some (dictOf (putL (aN t) (PyData.keyHash Q.P (aN t)) (.str (aN t) (t0+1)) v es) (putN (aN t) es m)):=by
  have:=Heap.get?_update_self (Obj.putName (aN t) (PyData.keyHash Q.P (aN t)) (.str (aN t) (t0+1)) v) hdx (by rw [putName_dict];rfl)
  rw [putName_dict] at this;exact this
 refine wpAny_updatePart hdx ?_
 refine wpAny_bind (wpAny_lookBehind ge (pastItsLine_dict ?_) (wpAny_pure (h _ _ _ ge (Heap.SameBut.update ..))))
 rw [List.size_toArray]
 have hn:es.length≤1000:=by rw [vf_len hvf];exact Nat.le_trans hz (by decide)
 exact Nat.le_trans (putL_len _ _ _ _ _) (Nat.succ_le_succ (sl3 hn))
inductive Pl:Expr→Prop
 | nm (x:Str) (p:Pos):Pl (.Name x p)
 | att (e:Expr) (x:Str) (p:Pos):Pl (.Attribute e x p)
 | sub (o i:Expr) (p:Pos):Pl (.Subscript o i p)
 | cal (q:Pos) (a:List Expr) (p:Pos):Pl (.Call (.Name (gN 14) q) a [] p)
 | dct (ks:_) (vs:_) (p:Pos):Pl (.Dict ks vs p)
theorem plain_E {C:Cn} {o:T} (hp:plainB o=true):Pl (C.E o):=by
 cases o with
 | cal f args p=>cases f with
  | glb j q=>
   obtain rfl:=Nat.eq_of_beq_eq_true hp
   exact .cal ..
  | _=>exact ffE hp
 | raw e=>cases e with
  | Dict ks vs p=>exact .dct ..
  | _=>exact ffE hp
 | _=>first|exact ffE hp|exact .nm ..|exact .att ..|exact .sub ..
theorem attBase' {e:Expr} (h:Pl e) (name:Str) (env:Env) (t:Sem Value):attributeBase e name env t=t:=by
 cases h with
 | cal q a p=>cases a with
  | cons _ _=>rfl
  | nil=>
   unfold attributeBase
   simp only [show (gN 14 != ("super":Str))=true by decide +kernel,Bool.true_or,if_true]
   first|done|exact bind_pure t
 | _=>rfl
theorem attBase {C:Cn} {o:T} (hp:plainB o=true) (name:Str) (env:Env) (t:Sem Value):attributeBase (C.E o) name env t=t:=attBase' (plain_E hp) name env t
theorem att_eq {e:Expr} (h:Pl e) (x:Str) (p:Pos) (env:Env):PySem.eval (.Attribute e x p) env=(do
   let ov ← attributeBase e x env (PySem.eval e env)
   standAt p.atName
   let r ← holding [ov] (getAttr ov x true)
   letTemporaryGo e ov r
   pure r):=by cases h<;>rfl
theorem att_ok {G:Value→Shared→Prop} (X:Cx Q) {ov:AV} {K:AV→Prop} {v:Value} (h:attR ov t σ K) (a:At Q env ρ σ p) (hv:V Q p.W.F v ov) (k:∀ x d tk,V Q p.W.F x d→K d→G x (p.tok tk).s):WP Q A (getAttr v (aN t) expr) G p.s:=by
 refine (alt_or h).elim (fun h1=>?_) fun h1=>?_
 ·obtain ⟨q,e,h1⟩:=h1
  obtain ⟨d,e',h1⟩:=opt_some h1
  obtain ⟨a',dx,es,m,rfl,f1,f2,hvf⟩:=v_inst (toK_some e▸hv)
  obtain ⟨b1,b2⟩:=noB_ok h1
  exact getAttr_own X a.I (a.I.frz _ _ f1) (a.I.frz _ _ f2) hvf e' b1 fun v hv=>k v d _ hv b2
 ·obtain ⟨x,e,h1⟩:=opt_some h1
  obtain rfl:=v_ref (toR_some e▸hv)
  obtain ⟨c,hc,h1⟩:=lk_cell a.I h1.ok
  obtain ⟨k',fs,rfl,h1⟩:=asI_inst h1
  obtain ⟨dx,es,m,f1,f2,hvf,_⟩:=hc
  obtain ⟨d,e',h1⟩:=opt_some h1
  obtain ⟨b1,b2⟩:=noB_ok h1
  exact getAttr_own X a.I f1 f2 hvf e' b1 fun v hv=>k v d _ hv b2
end
section
variable {C:Cn} {sc:Scope} {σ:St} {ρ:Rho} {K:AV→Rho→St→Prop}
theorem e_att (O:Cok C sc) {o:T} {t:Nat} {p:Pos} (hp:plainB o=true) (h:WE C.Q C.n C.env (C.E o) ρ σ fun ov ρ σ=>attR ov t σ fun d=>K d ρ σ):WE C.Q C.n C.env (.Attribute (C.E o) (aN t) p) ρ σ K:=fun A q G r a k=>by
 have he:eval (.Attribute (C.E o) (aN t) p) C.env=(do
   let ov ← eval (C.E o) C.env
   standAt p.atName
   let r ← holding [ov] (getAttr ov (aN t) true)
   letTemporaryGo (C.E o) ov r
   pure r):=by
  rw [att_eq (plain_E hp),attBase hp]
 exact Attribute_any_ (h A q _ r a fun ρ₁ σ₁ p₁ v ov o₁ x₁ r₁ h₁=>att_ok O.X h₁ o₁ r₁ fun x d tk hx φ=>k ρ₁ σ₁ _ x d (o₁.tok tk) (x₁.tok tk) hx φ) he
end
end
section
open Builtin Builtin.ObjectAttr
section
variable {Q:Bt} {n:Nat} {A:Around} {env:Env} {σ σ':St} {ρ:Rho} {p:Po} {W:Wd} {h:Heap} {K:AV→Rho→St→Prop}
theorem vl_get {F:FH} {vs:List Value} {ds:List AV} {i:Nat} {d:AV} (h:VL Q F vs ds) (e:ds[i]?=some d):∃ v,vs[i]?=some v∧V Q F v d:=by
 induction ds generalizing vs i with
 | nil=>first|exact ffE e|exact tfE e|exact noE e|cases e
 | cons x ds ih=>
  obtain ⟨v,vs,rfl,hv,r⟩:=vl_c h
  cases i with
  | zero=>cases e;exact ⟨_,rfl,hv⟩
  | succ i=>exact ih (i:=i) r e
theorem vl_set {F:FH} {v:Value} {d:AV} (h:V Q F v d) {vs:List Value} {ds:List AV} {i:Nat} (k:VL Q F vs ds):VL Q F (vs.set i v) (ds.set i d):=by
 induction ds generalizing vs i with
 | nil=>cases k;exact .nil
 | cons x ds ih=>
  obtain ⟨u,vs,rfl,hu,r⟩:=vl_c k
  cases i with
  | zero=>exact .cons h r
  | succ i=>exact .cons hu (ih r)
theorem idx_ok {k:Int} {l:List AV} {d:AV} (h:idx k l=some d):-(2^63)≤k∧k < 2^63∧∃ j,seqIndex? k l.length=some j∧l[j]?=some d:=by
 unfold idx at h
 split at h
 ·cases h
 ·rename_i q
  obtain ⟨j,a,b⟩:=Option.bind_eq_some_iff.mp h
  exact ⟨Int.le_trans (by decide) (Int.not_lt.mp fun z=>q (.inl z)),Int.lt_of_le_of_lt (Int.not_lt.mp fun z=>q (.inr z)) (by decide),j,a,b⟩
theorem sub_tup {l:List AV} {k:Int} {d:AV} (h:idx k l=some d):SubOk Q σ (.tup l) (.int k) d:=fun A p u v G _ _ I hu hv kk=>by
 obtain ⟨t,rfl⟩:=v_int hv
 obtain ⟨a,vs,n,rfl,e,hl⟩:=v_tup hu
 obtain ⟨h1,h2,j,h3,h4⟩:=idx_ok h
 obtain ⟨x,hx,hd⟩:=vl_get hl h4
 have ht:=I.frz _ _ e
 exact ⟨"tuple",_,⟨_,ht,rfl⟩,slot_tuple_getitem.lookup,PyProof.Rows.getItem_tuple ⟨_,ht,rfl,_,rfl⟩ h1 h2 (vl_size hl▸h3) (by rw [Array.getElem?_toList] at hx;exact hx) (kk _ p.s.toks hd)⟩
theorem sub_list {a:Addr} {vs:Array Value} {m:Nat} {l:List AV} {k:Int} {d:AV} {t:Tok} {G:Value→Shared→Prop} (ho:p.s.heap.get? a=some (PySem.W.listOf vs m)) (hl:VL Q p.W.F vs.toList l) (h0:0≤k) (h2:k < 2^62) (h:l[k.toNat]?=some d) (kk:∀ x t,V Q p.W.F x d→G x (p.tok t).s):
  ∃ T id,p.s.TypeIs (.ref a) T∧typeLookup (.type T) "__getitem__"=pure (some (.builtin id))∧WP Q A (getItem (.ref a) (.int k t)) G p.s:=by
 obtain ⟨x,hx,hd⟩:=vl_get hl h
 exact ⟨"list",_,⟨_,ho,rfl⟩,slot_list_getitem.lookup,wpAny_getItem_list ⟨_,ho,rfl,_,rfl⟩ h0 (Int.lt_trans h2 (by decide)) (by rw [Array.getElem?_toList] at hx;exact hx) (kk _ p.s.toks hd)⟩
theorem sub_lstF {l:List AV} {k:Int} {d:AV} (h0:0≤k) (h2:k < 2^62) (h:l[k.toNat]?=some d):SubOk Q σ (.lst l) (.int k) d:=fun A p u v G _ _ I hu hv kk=>by
 obtain ⟨t,rfl⟩:=v_int hv
 obtain ⟨a,vs,n,rfl,e,hl⟩:=v_lst hu
 exact sub_list (I.frz _ _ e) hl h0 h2 h kk
theorem sub_lst {a:Addr} {l:List AV} {k:Int} {d:AV} (hc:(a,.lst l)∈σ) (h0:0≤k) (h2:k < 2^62) (h:l[k.toNat]?=some d):SubOk Q σ (.ref a) (.int k) d:=fun A p u v G _ _ I hu hv kk=>by
 obtain ⟨t,rfl⟩:=v_int hv
 obtain rfl:=v_ref hu
 obtain ⟨vs,m,ho,hl,_⟩:=I.cells _ hc
 exact sub_list ho hl h0 h2 h kk
theorem vo_some {F:FH} {o:Option Value} {d:AV} (h:VO Q F o (some d)):∃ v,o=some v∧V Q F v d:=by cases h;exact ⟨_,rfl,by assumption⟩
theorem sub_zd {a:Addr} {m:Int→Option AV} {z:Nat} {k:Int} {d:AV} (hc:(a,.zd m z)∈σ) (h:m k=some d):SubOk Q σ (.ref a) (.int k) d:=fun A p u v G _ _ I hu hv kk=>by
 obtain ⟨t,rfl⟩:=v_int hv
 obtain rfl:=v_ref hu
 obtain ⟨kvs,ho,_,hl,_⟩:=I.cells _ hc
 obtain ⟨x,e,hd⟩:=vo_some (h▸hl k)
 exact ⟨"dict",_,ho.typeIs,slot_dict_getitem.lookup,wpAny_getItem_of (knd:=intKind Q.prog Q.w) (k:=k) (PySem.intKind_is _ _ _ _) ho.mapOf e (kk _ _ hd)⟩
theorem vk_keys {α:Type} {F:FH} {kvs:List (α × Value)} {fs:List (α × AV)} (h:VK Q F kvs fs):kvs.map (·.1)=fs.map (·.1):=by
 induction h with
 | nil=>rfl
 | cons _ _ ih=>rw [List.map_cons,List.map_cons,ih]
theorem vk_len {α:Type} {F:FH} {kvs:List (α × Value)} {fs:List (α × AV)} (h:VK Q F kvs fs):kvs.length=fs.length:=by rw [← List.length_map (f:=(·.1)),vk_keys h,List.length_map]
noncomputable def findS (x:Str) (dd:Option AV):List (Str × AV)→Option AV
 | []=>dd
 | (y,d)::r=>if y=x then some d else findS x dd r
theorem vk_find {F:FH} {x:Str} {dd:Option AV} {vd:Option Value} (hd:VO Q F vd dd) {kvs:List (Str × Value)} {fs:List (Str × AV)} (h:VK Q F kvs fs):VO Q F ((valueAt kvs x).or vd) (findS x dd fs):=by
 induction h with
 | nil=>exact hd
 | @cons y v d vs ds h r ih=>
  unfold valueAt findS
  rw [List.find?_cons]
  by_cases q:y=x
  ·rw [if_pos q,decide_eq_true q];exact .some h
  ·rw [if_neg q,decide_eq_false q];exact ih
theorem sub_sd {a:Addr} {fs:List (Str × AV)} {x:Str} {d:AV} (hc:(a,.sd fs)∈σ) (h:findS x none fs=some d):SubOk Q σ (.ref a) (.str x) d:=fun A p u v G _ _ I hu hv kk=>by
 obtain ⟨t,rfl⟩:=v_str hv
 obtain rfl:=v_ref hu
 obtain ⟨kvs,ho,hl,_⟩:=I.cells _ hc
 obtain ⟨v,e,hd⟩:=vo_some (h▸vk_find (x:=x) (vd:=none) .none hl)
 rw [Option.or_none] at e
 exact ⟨"dict",_,ho.typeIs,slot_dict_getitem.lookup,wpAny_getItem_of (knd:=PySem.strKind Q.prog Q.w) (k:=x) (PySem.strKind_is _ _ _ _) ho.mapOf e (kk _ _ hd)⟩
theorem sub_str {x:Str} {k:Int} (h1:fitsSsize k=true) (h2:(Txt.charAt x k).isSome=true):SubOk Q σ (.str x) (.int k) (.str (Txt.item x k)):=fun A p u v G _ _ I hu hv kk=>by
 obtain ⟨t,rfl⟩:=v_int hv
 obtain ⟨t',rfl⟩:=v_str hu
 exact ⟨"str",_,typeIs_str _ _ _,F.slot_str_getitem.lookup,SB.getItem h1 h2 (kk _ _ (.str _ _))⟩
theorem subS_ok {o i:AV} {u v:Value} {value slice:Expr} {Kv:AV→Prop} {G:Value→Shared→Prop} (h:SubS Q σ o i Kv) (r:Room A n) (I:Inv Q p.W σ p.s.heap) (hu:V Q p.W.F u o) (hv:V Q p.W.F v i) (he:subscripted slice false u v=operate [u,v] (getItem u v))
  (k:∀ x d t,V Q p.W.F x d→Kv d→G x (p.tok t).s):WP Q A (subscriptTail value slice u v) G p.s:=by
 obtain ⟨d,h1,h2⟩:=h
 obtain ⟨T,id,a1,a2,a3⟩:=h1 A p u v G r.hd r.units I hu hv fun x t hx=>k x d t hx h2
 exact tail_any a1 a2 a3 he
theorem sub_ok {o i:AV} {u v:Value} {value slice:Expr} {Kv:AV→Prop} {G:Value→Shared→Prop} (h:subR Q o i σ Kv) (r:Room A n) (I:Inv Q p.W σ p.s.heap) (hu:V Q p.W.F u o) (hv:V Q p.W.F v i) (he:subscripted slice false u v=operate [u,v] (getItem u v))
  (k:∀ x d t,V Q p.W.F x d→Kv d→G x (p.tok t).s):WP Q A (subscriptTail value slice u v) G p.s:=by
 refine (alt_or h).elim (fun h1=>?_) fun h1=>subS_ok h1.ok r I hu hv he k
 obtain ⟨l,e,h2⟩:=h1
 obtain ⟨j,e',h3⟩:=opt_some h2
 obtain ⟨d,e'',h4⟩:=opt_some h3
 exact subS_ok (o:=.tup l) (i:=.int j) ⟨d,sub_tup e'',h4⟩ r I (toT_some e▸hu) (toI_some e'▸hv) he k
theorem e_sub {value slice:Expr} {pos:Pos} (h:WE Q n env value ρ σ fun o ρ σ=>WE Q n env slice ρ σ fun i ρ σ=>subR Q o i σ fun d=>K d ρ σ) (hs:∀ o i:Value,subscripted slice false o i=operate [o,i] (getItem o i)):WE Q n env (.Subscript value slice pos) ρ σ K:=
 fun A p G R a k=>Subscript_ (h A p _ R a fun _ _ p₁ u o o₁ x₁ r₁ h₁=>h₁ A p₁ _ R o₁ fun ρ₂ σ₂ p₂ v i o₂ x₂ r₂ h₂=>sub_ok h₂ R o₂.I (x₂.V r₁) r₂ (hs _ _) fun x d t hx φ=>k ρ₂ σ₂ _ x d (o₂.tok t) ((x₁.trans x₂).tok t) hx φ)
theorem upd_at {s:Shared} {σ₁ σ₂:St} {a b₀:Addr} {c c':Cell} {h':Heap} (t:Nat) (I:Inv Q W (σ₁++(a,c)::σ₂) s.heap) (ho:W.own b₀=some a) (hs:Heap.SameBut b₀ s.heap h') (hl:∃ o,h'.get? b₀=some o) (hc:CellAt Q W h' a c'):
  Inv Q W (σ₁++(a,c')::σ₂) h'∧Bh none ⟨W,s⟩ ⟨W,{ s with heap:=h',toks:=t }⟩:=by
 have kk:∀ b o,W.own b≠some a→s.heap.get? b=some o→h'.get? b=some o:=fun b o hb g=>(hs.2 b fun q=>hb (by rw [q];exact ho)).trans g
 refine ⟨I.upd (fun b e=>?_) kk hc,Ext.upd _ kk⟩
 by_cases q:b=b₀
 ·rw [q];exact hl
 ·rw [hs.2 b q];exact I.live b _ e
theorem cell_mid {σ₁ σ₂:St} {a:Addr} {c:Cell} (I:Inv Q W (σ₁++(a,c)::σ₂) h):CellAt Q W h a c:=I.cells (a,c) (List.mem_append_right _ (.head _))
theorem vf_le {F:FH} {ns:List Str} {fs:List AV} {es:List DictEntry} (h:VF Q F es ns fs):fs.length≤ns.length:=by
 induction fs generalizing es ns with
 | nil=>exact Nat.zero_le _
 | cons x fs ih=>cases h with|cons _ r=>exact Nat.succ_le_succ (ih r)
theorem rel_nil {G:Unit→Shared→Prop} {s:Shared} {vs:List Value} (h:G () s):WP Q A (release vs []) G s:=wpAny_release' h
theorem a_att (X:Cx Q) {o:Expr} {t:Nat} {pos:Pos} {d:AV} {Φ:Rho→St→Prop} (h:WE Q n env o ρ σ fun ov ρ σ=>opt (toR ov) fun a=>Stop (Up σ a fun c g=>asI c fun k fs=>opt (putF t k fs d) fun fs'=>Φ ρ (g (.inst k fs')))) (hz:∀ k,(lay k).length≤900):WA Q n env (.Attribute o (aN t) pos) d ρ σ Φ:=fun A p v G R a hv k=>by
 show WP Q A (holding [v] (eval o env)>>=fun ov=>standAt pos.atName>>=fun _=>holding [v,ov] (setAttr ov (aN t) v)>>=fun _=>release [v,ov] []) G p.s
 refine wpAny_bind (wpAny_holding (h A p _ R a fun ρ₁ σ₁ p₁ u ov o₁ x₁ r₁ h₁=>wpAny_bind (wpAny_standAt ?_)))
 obtain ⟨a,e,h2⟩:=opt_some h₁
 obtain rfl:=v_ref (toR_some e▸r₁)
 obtain ⟨τ₁,c,τ₂,eσ,h3⟩:=h2.ok
 obtain ⟨k',fs,ec,h4⟩:=asI_inst h3
 obtain ⟨fs',ep,h5⟩:=opt_some h4
 have I:=o₁.I
 rw [eσ,ec] at I
 obtain ⟨dx,es,m,hx,hdx,hvf,w1,w2,ne⟩:=cell_mid I
 obtain ⟨i,hi,hp⟩:=Option.bind_eq_some_iff.mp ep
 obtain ⟨mem,hvf'⟩:=vf_put (lay_ok k').2 hvf hi hp (x₁.V hv)
 refine wpAny_bind (wpAny_holding (setAttr_own X I hx hdx hvf mem (Nat.le_trans (vf_le hvf) (by unfold fN;rw [List.length_map];exact hz _)) fun h' tk tx ge hs=>rel_nil ?_))
 obtain ⟨I',x'⟩:=upd_at (c':=.inst k' fs') tk I w2 hs ⟨_,ge⟩ ⟨dx,_,_,(hs.2 a (Ne.symm ne)).trans hx,ge,hvf' tx,w1,w2,ne⟩
 exact k ρ₁ _ ⟨p₁.W,_⟩ (o₁.ext x' I') (x₁.trans x'.wide) h5
set_option backward.match.sparseCases true in
theorem assign_sub (o i:Expr) (pos:Pos) (v:Value):assign (.Subscript o i pos) env v=(holding [v] (eval o env)>>=fun ov=>holding [v,ov] (eval i env)>>=fun iv=>standAt pos>>=fun _=>holding [v,ov,iv] (setItem ov iv v)>>=fun _=>release (match i with|.Slice _ _ none _=>[iv,v,ov]|_=>[v,ov,iv]) []):=rfl
theorem a_sub {o i:Expr} {pos:Pos} {d:AV} {Φ:Rho→St→Prop} (h:WE Q n env o ρ σ fun ov ρ σ=>WE Q n env i ρ σ fun iv ρ σ=>Stop (SetS Q σ ov iv d fun σ=>Φ ρ σ)):WA Q n env (.Subscript o i pos) d ρ σ Φ:=fun A p v G R a hv k=>by
 show WP Q A (assign (.Subscript o i pos) env v) G p.s
 rw [assign_sub]
 exact wpAny_bind (wpAny_holding (h A p _ R a fun ρ₁ σ₁ p₁ u ov o₁ x₁ r₁ h₁=>wpAny_bind (wpAny_holding (h₁ A p₁ _ R o₁ fun ρ₂ σ₂ p₂ x iv o₂ x₂ r₂ h₂=>wpAny_bind (wpAny_standAt (wpAny_bind (wpAny_holding (h₂.ok.elim fun σ₃ q=>q.1 A p₂ u x v _ R.hd R.units o₂.I (x₂.V r₁) r₂ ((x₁.trans x₂).V hv) fun h' t I' x'=>rel_nil (k ρ₂ σ₃ ⟨p₂.W,_⟩ (o₂.ext x' I') ((x₁.trans x₂).trans x'.wide) q.2)))))))))
theorem a_cel {C:Cn} {sc:Scope} (O:Cok C sc) {i:Nat} {p:Pos} {d:AV} {Φ:Rho→St→Prop} (h:bif C.own then opt C.ca[i]? fun a=>Stop (Up σ a fun c g=>bif isC c then Φ ρ (g (.cel (some d))) else False) else False):WA C.Q C.n C.env (.Name (C.cn.getD i "") p) d ρ σ Φ:=fun A q v G r a hv k=>by
 obtain ⟨hw,h⟩:=bif_true h
 obtain ⟨a',e,h1⟩:=opt_some h
 obtain ⟨x1,x2⟩:=cel_at O e
 obtain ⟨τ₁,c,τ₂,eσ,h2⟩:=h1.ok
 obtain ⟨ec,h3⟩:=bif_true h2
 obtain ⟨d',ed⟩:=isC_true ec
 have I:=a.I
 rw [eσ,ed] at I
 have hcell:=cell_mid I
 have:∃ v₀,q.s.heap.IsCell a' v₀:=by cases d' with|none=>exact ⟨_,hcell.1⟩|some d=>obtain ⟨v,hi,_⟩:=hcell;exact ⟨_,hi⟩
 obtain ⟨v₀,hi⟩:=this
 show WP C.Q A (standAt p>>=fun _=>bindName C.env (C.cn.getD i "") v) G q.s
 refine wpAny_bind (wpAny_standAt (wpAny_bindName (wpAny_storeName_cell (by rw [O.E.scp];exact O.E.kind) (by show C.env.scope.names.lookup _=_;rw [O.E.scp];exact O.own hw _ x1) (by rw [O.E.cel];exact x2) hi fun h' hi' hs=>?_)))
 obtain ⟨I',x'⟩:=upd_at (c':=.cel (some d)) q.s.toks I hcell.owned hs (let ⟨ob,g,_⟩:=hi';⟨ob,g⟩) ⟨v,hi',hv,hcell.owned⟩
 exact k ρ _ ⟨q.W,_⟩ (a.ext x' I') x'.wide h3
end
end
section
open Builtin Builtin.ObjectAttr
set_option tactic.hygienic false
theorem rawE_ok (e:Expr):okE (rawE e)=true:=by
 unfold rawE
 cases h:okE e with
 | true=>exact h
 | false=>rfl
theorem ok_hd (ns cn:List Str) (t:T):okE (hd (den ns cn t))=true:=by
 induction t with
 | cons a r ih _=>exact ih
 | raw e=>exact rawE_ok e
 | _=>rfl
section
variable {e:Expr} {env:Env}
theorem ok_star (h:okE e=true) (r:List Expr):starEach (e::r) env=(false,eval e env)::starEach r env:=by cases e<;>first|rfl|exact ffE h|exact tfE h|exact noE h|cases h
theorem ok_mark (h:okE e=true) (op:CmpOp):behindInMarks op e=false:=by cases e<;>first|rfl|exact ffE h|exact tfE h|exact noE h|cases h
theorem ok_slice (h:okE e=true) (o i:Value):subscripted e false o i=operate [o,i] (getItem o i):=by cases e<;>first|rfl|exact ffE h|exact tfE h|exact noE h|cases h
theorem ok_swap (h:okE e=true) (h':isLC e=false) (tg:Option Expr) (ln:Nat):swapsWith e tg ln env=pure false:=by cases e<;>first|rfl|exact ffE h|exact tfE h|exact noE h|(cases h;done)|exact ffE h'|exact tfE h'|exact noE h'|cases h'
theorem ok_fold (h:okE e=true) (x:Value):foldedSetIterable e env x=pure x:=by cases e<;>first|rfl|exact ffE h|exact tfE h|exact noE h|cases h
end
theorem lc_E {ns cn:List Str} {t:T} (h:lcT t=false):isLC (hd (den ns cn t))=false:=by
 cases t with
 | raw e=>
  show isLC (rawE e)=false
  unfold rawE
  cases okE e with
  | true=>exact h
  | false=>rfl
 | cons=>first|exact ffE h|exact tfE h|exact noE h|cases h
 | _=>rfl
theorem star_no (ns cn:List Str) (env:Env) (pos:Pos) (t:T):(backTo pos (starEach (den ns cn t) env)).any (·.1)=false:=by
 have one:∀ e,okE e=true→(backTo pos (starEach [e] env)).any (·.1)=false:=fun e h=>by rw [ok_star h];rfl
 induction t with
 | nil=>rfl
 | cons a r _ ih=>
  rw [show den ns cn (.cons a r)=hd (den ns cn a)::den ns cn r from rfl,ok_star (ok_hd ns cn a)]
  exact ih
 | raw e=>exact one _ (rawE_ok e)
 | _=>first|exact one _ rfl|rfl
section
variable {Q:Bt} {n:Nat} {A:Around} {env:Env} {σ σ':St} {ρ:Rho} {p:Po} {W:Wd} {h:Heap} {K:AV→Rho→St→Prop}
noncomputable def KL (Q:Bt) (f:Value) (h:Heap):Prop:=∃ k,(k=Keeper.frame∨k=Keeper.machine∨k=Keeper.boundFrame)∧Looks (model Q.prog Q.w) h (keeperOf f) k
theorem kl_fn {a:Addr} {o:Obj} {fd:FuncData} (e:h.get? a=some o) (d:o.data=.func fd):KL Q (.ref a) h:=by
 obtain ⟨oc,od,dt,sl⟩:=o
 cases d
 exact ⟨.frame,.inl rfl,(Looks.ld (part:=none) e).andThen .now⟩
theorem kl_in (X:Cx Q) {a:Addr} (I:Inv Q W σ h) (e:keepIn Q.K (.ref a)=true):KL Q (.ref a) h:=keeps_K e h (X.X.keeps I.keepB)
theorem kl_blt (n:String):KL Q (.builtin n) h:=⟨.machine,.inr (.inl rfl),Looks.of_pure rfl⟩
theorem kl_typ (n:String):KL Q (.type n) h:=⟨.machine,.inr (.inl rfl),Looks.of_pure rfl⟩
theorem evalArgs_nil4 {M:Model} {A:Around} {E:Value→Shared→Prop} {s:Shared} {f:Value} {G:Args→Shared→Prop} (h:wpAny M A (spliced []) (fun vs s'=>G ⟨vs,[]⟩ s') E s):wpAny M A (evalArgs f true [] []) G E s:=by
 unfold evalArgs
 show wpAny M A (spliced []>>=_) G E s
 exact wpAny_bind (wpAny_mono h (fun vs s' q=>wpAny_bind (wpAny_pure (wpAny_holding (wpAny_bind (wpAny_pure (wpAny_bind (wpAny_pure (wpAny_pure q)))))))) fun _ _ z=>z)
theorem callW {pos:Pos} {f:Value} {first:List Value} {args:List Expr} {Φ:List AV→Rho→St→Prop} {G:Value→Shared→Prop} (R:Room A n) (a:At Q env ρ σ p) (hs:(backTo pos (starEach args env)).any (·.1)=false) (h:WL Q n env args ρ σ Φ)
  (k:∀ (ρ':Rho) (σ':St) (q:Po) (vs:List Value) (l:List AV),At Q env ρ' σ' q→Bh (some env.locals) p q→VL Q q.W.F vs l→Φ l ρ' σ'→KL Q f q.s.heap∧WP Q A (PySem.call f (first++vs)) G q.s):
  WP Q A (callWith pos f first (backTo pos (starEach args env)) []) G p.s:=by
 have key:=h pos A p (fun vs s=>KL Q f s.heap∧WP Q A (PySem.call f (first++vs)) G s) R a k
 refine callWith_of (P:=KL Q f) (by rw [hs];rfl) (fun _ p=>p) ?_
 generalize backTo pos (starEach args env)=l at key hs
 cases l with
 | nil=>exact evalArgs_nil4 key
 | cons t r=>
  obtain ⟨b,x⟩:=t
  cases b with
  | true=>first|exact ffE hs|exact tfE hs|exact noE hs|cases hs
  | false=>exact evalArgs_plain key
theorem e_call {fe:Expr} {args:List Expr} {pos:Pos} (he:eval (.Call fe args [] pos) env=(do callWith pos (← eval fe env) [] (backTo pos (starEach args env)) [])) (hs:(backTo pos (starEach args env)).any (·.1)=false)
  (h:WE Q n env fe ρ σ fun f ρ σ=>WL Q n env args ρ σ fun l ρ σ=>∀ (p:Po) (v:Value),At Q env ρ σ p→V Q p.W.F v f→KL Q v p.s.heap∧WC Q n v l σ fun d σ=>K d ρ σ):WE Q n env (.Call fe args [] pos) ρ σ K:=fun A p G R a k=>by
 show WP Q A (eval (.Call fe args [] pos) env) G p.s
 rw [he]
 refine wpAny_bind (h A p _ R a fun ρ₁ σ₁ p₁ v f o₁ x₁ r₁ h₁=>callW R o₁ hs h₁ fun ρ₂ σ₂ p₂ vs l o₂ x₂ r₂ h₂=>?_)
 obtain ⟨b1,b2⟩:=h₂ p₂ v o₂ (x₂.V r₁)
 exact ⟨b1,b2.at R o₂ r₂ fun σ' q v d o x hd φ=>k ρ₂ σ' q v d o ((x₁.trans x₂).trans x) hd φ⟩
end
end
section
open Builtin Builtin.ObjectAttr
set_option tactic.hygienic false
theorem form_ok (ns cn:List Str) (t:T) (pos:Pos) (env:Env) (hn:(den ns cn t).length < 30):methodCallForm ((den ns cn t).length+([]:List Keyword).length) (backTo pos (starEach (den ns cn t) env)) (backToKw pos (keywordEach [] env))=true:=by
 have h1:∀ (l:List (Bool × Sem Value)),l.any (·.1)=false→l.all (!·.1)=true:=by
  intro l
  induction l with
  | nil=>intro _;rfl
  | cons x l ih=>
   intro h
   rw [List.any_cons,Bool.or_eq_false_iff] at h
   rw [List.all_cons,h.1,ih h.2];rfl
 have hk:backToKw pos (keywordEach [] env)=[]:=rfl
 unfold methodCallForm
 rw [h1 _ (star_no ns cn env pos t),hk]
 simp only [List.all_nil,List.isEmpty_nil,if_true,Nat.add_zero,List.length_nil,Bool.true_and,Bool.and_true,decide_eq_true_eq]
 exact hn
theorem fN_mt:((49,6)::mtTab).all (fun p=>!(fN p.1).contains (nmS (mth p.1 p.2)))=true:=by kernel_rfl
theorem elem_mem {α:Type} [BEq α] [LawfulBEq α] {a:α} {l:List α} (h:l.elem a=true):a∈l:=List.elem_iff.mp h
section
variable {C:Cn} {sc:Scope} {σ:St} {ρ:Rho} {K:AV→Rho→St→Prop}
theorem meth_eq {e:Expr} (h:Pl e) (name:Str) (ap p:Pos) (args:List Expr) (env:Env):PySem.eval (.Call (.Attribute e name ap) args [] p) env=(do
   let ov ← attributeBase e name env (PySem.eval e env)
   standAt ap.atName
   methodCall e name ap p env ov (args.length+([]:List Keyword).length) (backTo p (starEach args env)) (backToKw p (keywordEach [] env))):=by cases h<;>rfl
theorem method_eq {o args:T} {name:Str} {ap p:Pos} {env:Env} (hp:plainB o=true) (hm:okM ap p (C.L args)=true):
  eval (.Call (.Attribute (C.E o) name ap) (C.L args) [] p) env=(do
   let ov ← eval (C.E o) env
   standAt ap.atName
   let (f,first) ← holding [ov] (getMethod ov name (do return (← importBound (C.E o) env).getD true))
   callWith p f first (backTo p (starEach (C.L args) env)) []):=by
 obtain ⟨m1,m2⟩:=Bool.and_eq_true_iff.mp hm
 have e1:eval (.Call (.Attribute (C.E o) name ap) (C.L args) [] p) env=(do
   let ov ← eval (C.E o) env
   standAt ap.atName
   methodCall (C.E o) name ap p env ov ((C.L args).length+([]:List Keyword).length) (backTo p (starEach (C.L args) env)) (backToKw p (keywordEach [] env))):=by
  rw [meth_eq (plain_E hp),attBase hp]
 rw [e1]
 refine congrArg (Bind.bind _) (funext fun ov=>congrArg (Bind.bind _) (funext fun _=>?_))
 have m1:(ap.endLine==p.line)=true:=beq_iff_eq.mpr (Nat.eq_of_beq_eq_true m1)
 unfold methodCall
 rw [form_ok C.ns C.cn args p env (Nat.le_of_ble_eq_true m2)]
 unfold calleeOf methodCallPos
 simp only [if_true,m1,Bool.or_true,pure_bind,Bool.not_true]
 rfl
theorem e_mth {o args:T} {name:Str} {ap p:Pos} (hp:plainB o=true) (hm:okM ap p (C.L args)=true)
  (h:WE C.Q C.n C.env (C.E o) ρ σ fun ov ρ σ=>∀ (q:Po) (v:Value),At C.Q C.env ρ σ q→V C.Q q.W.F v ov→∃ f first fs,VL C.Q q.W.F first fs∧(∀ A pl G,(∀ t,G (f,first) (q.tok t).s)→WP C.Q A (getMethod v name pl) G q.s) ∧
   WL C.Q C.n C.env (C.L args) ρ σ fun l ρ σ=>(∀ q,At C.Q C.env ρ σ q→KL C.Q f q.s.heap)∧WC C.Q C.n f (fs++l) σ fun d σ=>K d ρ σ):
  WE C.Q C.n C.env (.Call (.Attribute (C.E o) name ap) (C.L args) [] p) ρ σ K:=fun A q G R a k=>by
 show WP C.Q A (eval _ _) G q.s
 rw [method_eq hp hm]
 refine wpAny_bind (h A q _ R a fun ρ₁ σ₁ p₁ v ov o₁ x₁ r₁ h₁=>wpAny_bind (wpAny_standAt (wpAny_bind (wpAny_holding ?_))))
 obtain ⟨f,first,fs,b1,b2,b3⟩:=h₁ p₁ v o₁ r₁
 refine b2 A _ _ fun t=>callW R (o₁.tok t) (star_no _ _ _ _ _) b3 fun ρ₂ σ₂ p₂ vs l o₂ x₂ r₂ h₂=>⟨h₂.1 p₂ o₂,h₂.2.at R o₂ (vl_app r₂ (x₂.VL b1)) fun σ' q v d o x hd φ=>k ρ₂ σ' q v d o (((x₁.tok t).trans x₂).trans x) hd φ⟩
theorem vf_miss {Q:Bt} {F:FH} {x:Str} {ns:List Str} {fs:List AV} {es:List DictEntry} (h:VF Q F es ns fs) (hm:x∉ns):es.find? (·.key.isStr x)=none:=by
 induction fs generalizing es ns with
 | nil=>cases h;rfl
 | cons d fs ih=>cases h with
  | cons h r=>
   rw [List.mem_cons,not_or] at hm
   exact (List.find?_cons_of_neg (by rw [isStr_ne (Ne.symm hm.1)];exact Bool.false_ne_true)).trans (ih r hm.2)
theorem e_own (O:Cok C sc) {o args:T} {k j:Nat} {ap p:Pos} (hp:(plainB o&&(mtOk k j&&okM ap p (C.L args)))=true)
  (h:WE C.Q C.n C.env (C.E o) ρ σ fun ov ρ σ=>opt (toR ov) fun a=>Stop (Lk σ a fun c=>asI c fun k' fs=>bif Nat.beq k' k then WL C.Q C.n C.env (C.L args) ρ σ fun l ρ σ=>WM C.Q C.n k j (.ref a::l) σ fun d σ=>K d ρ σ else False)):
  WE C.Q C.n C.env (.Call (.Attribute (C.E o) (nmS (mth k j)) ap) (C.L args) [] p) ρ σ K:=by
 obtain ⟨p1,hp⟩:=Bool.and_eq_true_iff.mp hp
 obtain ⟨p2,p3⟩:=Bool.and_eq_true_iff.mp hp
 have p2:(k,j)∈(49,6)::mtTab:=elem_mem p2
 have hno:=List.all_eq_true.mp fN_mt (k,j) p2
 have hf:∃ f,(methIn C.Q.K (cT k) (nmS (mth k j)) f&&keepIn C.Q.K (.ref f))=true:=by
  rcases List.mem_cons.mp p2 with e|m
  ·cases e;obtain ⟨f,_,_,h,_⟩:=O.X.mo;exact ⟨f,h⟩
  ·obtain ⟨f,h,_⟩:=O.X.mt (k,j) m;exact ⟨f,h⟩
 obtain ⟨f,hf⟩:=hf
 obtain ⟨hm,hk⟩:=Bool.and_eq_true_iff.mp hf
 simp only [methIn,Bool.and_eq_true,beq_iff_eq] at hm
 obtain ⟨⟨⟨m1,m2⟩,m3⟩,m4⟩:=hm
 refine e_mth p1 p3 (h.mono fun ov ρ σ h q v a hv=>?_)
 obtain ⟨x,e,h1⟩:=opt_some h
 obtain rfl:=v_ref (toR_some e▸hv)
 obtain ⟨c,hc,h2⟩:=lk_cell a.I h1.ok
 obtain ⟨k',fs,rfl,h3⟩:=asI_inst h2
 obtain ⟨e2,h4⟩:=bif_true h3
 cases Nat.eq_of_beq_eq_true e2
 obtain ⟨dx,es,m,hx,hdx,hvf,_⟩:=hc
 have hl:lookIn (nmS (mth k j)) (dictOf es m)=some none:=by
  unfold lookIn
  dsimp only
  rw [vf_miss hvf fun q=>by rw [List.contains_iff_mem.mpr q] at hno;cases hno]
  dsimp only
  rw [if_neg (by rw [vf_noref hvf];exact Bool.false_ne_true)]
 refine ⟨.ref f,[.ref x],[.ref x],.cons (.ref x) .nil,fun A pl G hG=>?_,fun pos=>(h4 pos).mono fun l ρ σ h5=>⟨fun q a=>kl_in O.X a.I hk,h5 f hf⟩⟩
 have hi:InstAt q.s.heap x (instObj (cT k) dx) (cT k) (some (dictOf es m)):=⟨hx,rfl,rfl,hdx⟩
 exact method_fn (O.X.X.keeps a.I.keepB) hi m1 m2 m3 m4 (by unfold shadowIn;dsimp only;rw [hl];rfl) (hG q.s.toks)
theorem e_opi (O:Cok C sc) {args:T} {p₀ ap p:Pos} (hp:(okM ap p (C.L args)&&C.gs.elem 73)=true) (h:WL C.Q C.n C.env (C.L args) ρ σ fun l ρ σ=>WI C.Q C.n l σ fun d σ=>K d ρ σ):
  WE C.Q C.n C.env (.Call (.Attribute (.Name (nmS (st 73)) p₀) "__init__" ap) (C.L args) [] p) ρ σ K:=by
 obtain ⟨p1,p2⟩:=Bool.and_eq_true_iff.mp hp
 obtain ⟨h1,_⟩:=O.X.cl 73 (by decide)
 obtain ⟨f,h2,_⟩:=O.X.opI
 refine e_mth (o:=.glb 73 p₀) rfl p1 (e_glb (d:=.ref (cT 73)) O h1 (fun _=>.ref _) (O.gs 73 (elem_mem p2)) fun q v a hv=>?_)
 obtain rfl:=v_ref hv
 have h2':=h2
 simp only [clsAttrIn,Bool.and_eq_true,beq_iff_eq] at h2'
 obtain ⟨⟨⟨m1,m2⟩,m3⟩,m4⟩:=h2'
 have m3':findCls C.Q.K (.ref (cT 73)) (.type "type") "__init__"=some (.val (.ref f)):=by
  revert m3
  cases findCls C.Q.K (.ref (cT 73)) (.type "type") "__init__" with
  | none=>intro q;cases q
  | some z=>cases z with
   | val v=>intro q;rw [show v=.ref f from beq_iff_eq.mp q]
   | get _ _ _ _=>intro q;cases q
 exact ⟨.ref f,[],[],.nil,fun A pl G hG=>method_cls (O.X.X.keeps a.I.keepB) m1 (cls_value (O.X.X.keeps a.I.keepB) m2 m3' rfl (hG _)),fun pos=>(h pos).mono fun l ρ σ h5=>⟨fun q a=>kl_in O.X a.I m4,h5 f h2⟩⟩
theorem okB_ok {b:Nat} {c:Cell} (h:okB b c=true):(∃ l,c=.lst l∧(b=2∨b=3))∨((∃ m z,c=.zd m z)∨∃ fs,c=.sd fs)∧b=4:=by
 cases c<;>first|exact ffE h|exact tfE h|exact noE h|(cases h;done)|skip
 ·refine .inl ⟨_,rfl,?_⟩
  rcases (Bool.or_eq_true _ _).mp h with h|h
  ·exact .inl (Nat.eq_of_beq_eq_true h)
  ·exact .inr (Nat.eq_of_beq_eq_true h)
 ·exact .inr ⟨.inr ⟨_,rfl⟩,Nat.eq_of_beq_eq_true h⟩
 ·exact .inr ⟨.inl ⟨_,_,rfl⟩,Nat.eq_of_beq_eq_true h⟩
theorem gm_cell {Q:Bt} {σ:St} {q:Po} {a:Addr} {b:Nat} {c:Cell} (hc:CellAt Q q.W q.s.heap a c) (h:okB b c=true) {A:Around} {pl:Sem Bool} {G:Value × List Value→Shared→Prop} (hG:G (.builtin (midS b),[.ref a]) q.s):WP Q A (getMethod (.ref a) (bmN b) pl) G q.s:=by
 rcases okB_ok h with ⟨l,rfl,e⟩|⟨⟨m,z,rfl⟩|⟨fs,rfl⟩,rfl⟩
 ·obtain ⟨vs,m,ho,_⟩:=hc
  rcases e with rfl|rfl
  ·exact getMethod_list_append ho rfl rfl hG
  ·exact getMethod_builtin ⟨_,ho,rfl⟩ PySem.F.plainAttrs_list PySem.F.slot_list_index PySem.F.type_list_index (fun a e=>by cases e;exact ⟨_,ho,rfl⟩) hG
 ·obtain ⟨kvs,ho,_⟩:=hc
  exact getMethod_builtin ho.typeIs PySem.F.plainAttrs_dict PySem.F.slot_dict_get PySem.F.type_dict_get ho.mapOf.noDict hG
 ·obtain ⟨kvs,ho,_⟩:=hc
  exact getMethod_builtin ho.typeIs PySem.F.plainAttrs_dict PySem.F.slot_dict_get PySem.F.type_dict_get ho.mapOf.noDict hG
theorem e_mtb (O:Cok C sc) {o args:T} {b:Nat} {ap p:Pos} (hp:(plainB o&&okM ap p (C.L args))=true)
  (h:WE C.Q C.n C.env (C.E o) ρ σ fun ov ρ σ=>alt (toS ov) (fun x=>bif Nat.ble b 1 then WL C.Q C.n C.env (C.L args) ρ σ fun l ρ σ=>WC C.Q C.n (.builtin (midS b)) (.str x::l) σ fun d σ=>K d ρ σ else False)
   (opt (toR ov) fun a=>Stop (Lk σ a fun c=>bif okB b c then WL C.Q C.n C.env (C.L args) ρ σ fun l ρ σ=>WC C.Q C.n (.builtin (midS b)) (.ref a::l) σ fun d σ=>K d ρ σ else False))):
  WE C.Q C.n C.env (.Call (.Attribute (C.E o) (bmN b) ap) (C.L args) [] p) ρ σ K:=by
 obtain ⟨p1,p3⟩:=Bool.and_eq_true_iff.mp hp
 refine e_mth p1 p3 (h.mono fun ov ρ σ h q v a hv=>?_)
 refine (alt_or h).elim (fun h1=>?_) fun h1=>?_
 ·obtain ⟨x,e,h2⟩:=h1
  obtain ⟨e2,h3⟩:=bif_true h2
  have hv:=toS_some e▸hv
  obtain ⟨t,rfl⟩:=v_str hv
  refine ⟨.builtin (midS b),[.str x t],[.str x],.cons hv .nil,fun A pl G hG=>?_,fun pos=>(h3 pos).mono fun l ρ σ h5=>⟨fun q a=>kl_blt _,h5⟩⟩
  rcases b with _|_|b
  ·exact GM.split (hG q.s.toks)
  ·exact GM.startswith (hG q.s.toks)
  ·exact ffE e2
 ·obtain ⟨x,e,h2⟩:=opt_some h1
  obtain rfl:=v_ref (toR_some e▸hv)
  obtain ⟨c,hc,h3⟩:=lk_cell a.I h2.ok
  obtain ⟨e2,h4⟩:=bif_true h3
  exact ⟨.builtin (midS b),[.ref x],[.ref x],.cons (.ref x) .nil,fun A pl G hG=>gm_cell (σ:=σ) hc e2 (hG q.s.toks),fun pos=>(h4 pos).mono fun l ρ σ h5=>⟨fun q a=>kl_blt _,h5⟩⟩
end
end
section
open Builtin Builtin.ObjectAttr
set_option tactic.hygienic false
section
variable {Q:Bt} {W:Wd} {h:Heap} {σ:St}
theorem Cx.isFn (X:Cx Q) {j:Nat} (hj:j∈fnAll):∃ a o fd,Q.mg (nmS (st j))=some (.ref a)∧Q.hB.get? a=some o∧o.data=.func fd:=by
 rcases List.mem_append.mp hj with hj|hj
 ·rcases List.mem_append.mp hj with hj|hj
  ·obtain ⟨a,h1,o,fd,h2,h3,_⟩:=X.fn j hj
   exact ⟨a,o,fd,h1,h2,h3⟩
  ·obtain ⟨a,_,_,h1,o,fd,h2,h3,_⟩:=X.fc j hj
   exact ⟨a,o,fd,h1,h2,h3⟩
 ·obtain ⟨a,_,h1,⟨o,fd,h2,h3,_⟩,_⟩:=X.ft j hj
  exact ⟨a,o,fd,h1,h2,h3⟩
theorem gN_lt {j:Nat} (h:j < 200):gN j=nmS (st j):=if_pos h
theorem fnAll_lt:∀ j∈fnAll++clsIdx,j < 200:=by decide
theorem lkN_mem {α:Type} {j:Nat} {v:α}:∀ {l:List (Nat × α)},lkN l j=some v→(j,v)∈l:=by
 intro l
 induction l with
 | nil=>exact noE
 | cons p l ih=>
  intro e
  unfold lkN at e
  cases q:Nat.beq p.1 j with
  | true=>rw [q] at e;rw [← Nat.eq_of_beq_eq_true q,← Option.some.inj e];exact .head _
  | false=>rw [q] at e;exact .tail _ (ih e)
theorem gT_ok (X:Cx Q):∀ p∈gT,∃ v,Q.mg (gN p.1)=some v∧∀ F,V Q F v p.2:=
 have i (p) (h:p∈giTab):∃ v,Q.mg p.1=some v∧∀ F,V Q F v (.int p.2):=(X.gi p h).elim fun t h=>⟨_,h,fun _=>.int _ _⟩
 have s (p) (h:p∈gsTab):∃ v,Q.mg p.1=some v∧∀ F,V Q F v (.str p.2):=(X.gs p h).elim fun t h=>⟨_,h,fun _=>.str _ _⟩
 all1 (i ("STACK",4) (.head _)) (all1 (i ("RSP",4) (.tail _ (.head _))) (all1 (i ("RBP",5) (.tail _ (.tail _ (.head _)))) (all1 (s ("CONDITIONS",_) (.head _)) (all1 (s ("NAMES_64",_) (.tail _ (.head _))) (all1 (s ("TRAPS",_) (.tail _ (.tail _ (.head _)))) all0)))))
theorem gV_ok (X:Cx Q) {j:Nat} {d:AV} (e:gV j=some d):∃ v,Q.mg (gN j)=some v∧∀ F,V Q F v d:=by
 unfold gV at e
 cases q:lkN gT j with
 | some d'=>rw [q] at e;rw [← Option.some.inj e];exact gT_ok X (j,d') (lkN_mem q)
 | none=>
  rw [q] at e
  cases q:fnAll.elem j with
  | false=>rw [q] at e;exact noE e
  | true=>
   rw [q] at e
   rw [← Option.some.inj e]
   obtain ⟨a,_,_,h,_⟩:=X.isFn (elem_mem q)
   rw [gN_lt (fnAll_lt j (List.mem_append_left _ (elem_mem q)))]
   exact ⟨_,h,fun _=>.fn q h⟩
structure BOk (j:Nat) (v:Value):Prop where
 m:gN j∈blNames
 n:(gN j==("__name__":Str))=false
 b:bootBuiltins (gN j)=some v
 k:(∃ n,v=.builtin n)∨∃ n,v=.type n
theorem bT_ok:∀ p∈bT,BOk p.1 p.2:=
 have t {j} {n} (a:blNames.contains (gN j)=true) (b:(gN j==("__name__":Str))=false) (c:bootBuiltins (gN j)=some (.type n)):BOk j (.type n):=⟨List.contains_iff_mem.mp a,b,c,.inr ⟨_,rfl⟩⟩
 have u {j} {n} (a:blNames.contains (gN j)=true) (b:(gN j==("__name__":Str))=false) (c:bootBuiltins (gN j)=some (.builtin n)):BOk j (.builtin n):=⟨List.contains_iff_mem.mp a,b,c,.inl ⟨_,rfl⟩⟩
 all1 (t (by kernel_rfl) (by kernel_rfl) (by kernel_rfl)) (all1 (t (by kernel_rfl) (by kernel_rfl) (by kernel_rfl)) (all1 (t (by kernel_rfl) (by kernel_rfl) (by kernel_rfl)) (all1 (t (by kernel_rfl) (by kernel_rfl) (by kernel_rfl)) (all1 (t (by kernel_rfl) (by kernel_rfl) (by kernel_rfl)) (all1 (t (by kernel_rfl) (by kernel_rfl) (by kernel_rfl)) (all1 (t (by kernel_rfl) (by kernel_rfl) (by kernel_rfl))
  (all1 (u (by kernel_rfl) (by kernel_rfl) (by kernel_rfl)) (all1 (u (by kernel_rfl) (by kernel_rfl) (by kernel_rfl)) (all1 (u (by kernel_rfl) (by kernel_rfl) (by kernel_rfl)) all0)))))))))
theorem bV_ok {j:Nat} {v:Value} (e:bV j=some v):BOk j v:=bT_ok (j,v) (lkN_mem e)
end
section
variable {C:Cn} {sc:Scope} {σ:St} {ρ:Rho} {K:AV→Rho→St→Prop}
theorem e_glob (O:Cok C sc) {j:Nat} {p:Pos} (h:bif C.gs.elem j then opt (gV j) fun d=>K d ρ σ else False):WE C.Q C.n C.env (.Name (gN j) p) ρ σ K:=by
 obtain ⟨e,h1⟩:=bif_true h
 obtain ⟨d,e',h2⟩:=opt_some h1
 obtain ⟨v,hv,hd⟩:=gV_ok O.X e'
 exact e_glb O hv hd (O.gs j (elem_mem e)) h2
theorem e_cG (O:Cok C sc) {j:Nat} {args:T} {p p':Pos} (h:bif C.gs.elem j then opt (ck j) fun t=>WL C.Q C.n C.env (C.L args) ρ σ fun l ρ σ=>calR C j t l σ fun d σ=>K d ρ σ else False):WE C.Q C.n C.env (.Call (.Name (gN j) p) (C.L args) [] p') ρ σ K:=by
 obtain ⟨e,h1⟩:=bif_true h
 obtain ⟨t,e',h2⟩:=opt_some h1
 have hg:=O.gs j (elem_mem e)
 unfold ck at e'
 cases q:Nat.ble 200 j with
 | true=>
  rw [q] at e'
  cases q':bV j with
  | none=>rw [q'] at e';cases e'
  | some w=>
   rw [q'] at e'
   cases e'
   obtain ⟨b1,b2,b3,b4⟩:=bV_ok q'
   have h3:=fun pos=>(h2 pos).mono (Φ':=fun l ρ σ=>WC C.Q C.n w l σ fun d σ=>K d ρ σ) fun l ρ σ h=>by
    obtain ⟨w',e,h⟩:=opt_some (show opt (bV j) _ from h)
    rw [q'] at e
    cases e
    exact h.ok
   rcases b4 with ⟨n,rfl⟩|⟨n,rfl⟩
   ·exact e_call rfl (star_no _ _ _ _ _) (e_blt (d:=.blt n) O (O.X.bl _ b1) b3 b2 (fun _=>.blt n) hg fun pos=>(h3 pos).mono fun l ρ σ h p v a hv=>by cases hv.is;exact ⟨kl_blt n,h⟩)
   ·exact e_call rfl (star_no _ _ _ _ _) (e_blt (d:=.typ n) O (O.X.bl _ b1) b3 b2 (fun _=>.typ n) hg fun pos=>(h3 pos).mono fun l ρ σ h p v a hv=>by cases hv.is;exact ⟨kl_typ n,h⟩)
 | false=>
  rw [q] at e'
  cases q1:clsIdx.elem j with
  | true=>
   rw [q1] at e'
   cases e'
   obtain ⟨c1,c2⟩:=O.X.cl j (elem_mem q1)
   rw [gN_lt (fnAll_lt j (List.mem_append_right _ (elem_mem q1)))] at hg ⊢
   exact e_call rfl (star_no _ _ _ _ _) (e_glb (d:=.ref (cT j)) O c1 (fun _=>.ref _) hg fun pos=>(h2 pos).mono fun l ρ σ h p v a hv=>by cases hv.is;exact ⟨kl_in O.X a.I c2,Stop.ok h⟩)
  | false=>
   rw [q1] at e'
   cases q2:fnAll.elem j with
   | false=>rw [q2] at e';cases e'
   | true=>
    rw [q2] at e'
    cases e'
    obtain ⟨a,o,fd,c1,c2,c3⟩:=O.X.isFn (elem_mem q2)
    rw [gN_lt (fnAll_lt j (List.mem_append_left _ (elem_mem q2)))] at hg ⊢
    exact e_call rfl (star_no _ _ _ _ _) (e_glb (d:=.ref a) O c1 (fun _=>.ref _) hg fun pos=>(h2 pos).mono fun l ρ σ h p v a' hv=>by cases hv.is;exact ⟨kl_fn (a'.I.keepB _ _ c2) c3,Stop.ok h a c1⟩)
theorem e_cV (O:Cok C sc) {f args:T} {p:Pos} (hp:plainF f=true) (h:WE C.Q C.n C.env (C.E f) ρ σ fun fv ρ σ=>alt (toF fv) (fun j=>WL C.Q C.n C.env (C.L args) ρ σ fun l ρ σ=>Stop (WG C.Q C.n j l σ fun d σ=>K d ρ σ))
  (opt (toR fv) fun a=>WL C.Q C.n C.env (C.L args) ρ σ fun l ρ σ=>Stop (KprS C.Q σ a∧WC C.Q C.n (.ref a) l σ fun d σ=>K d ρ σ))):WE C.Q C.n C.env (.Call (C.E f) (C.L args) [] p) ρ σ K:=by
 refine e_call (by cases f<;>first|rfl|exact ffE hp|exact tfE hp|exact noE hp|cases hp) (star_no _ _ _ _ _) (h.mono fun fv ρ σ h=>?_)
 refine (alt_or h).elim (fun h1=>?_) fun h1=>?_
 ·obtain ⟨j,e,h2⟩:=h1
  refine fun pos=>(h2 pos).mono fun l ρ σ h p v a hv=>?_
  obtain ⟨b,rfl,hb,hj⟩:=v_fn (toF_some e▸hv)
  obtain ⟨b',o,fd,c1,c2,c3⟩:=O.X.isFn (elem_mem hj)
  rw [hb] at c1
  cases c1
  exact ⟨kl_fn (a.I.keepB _ _ c2) c3,h.ok b hb⟩
 ·obtain ⟨x,e,h2⟩:=opt_some h1
  refine fun pos=>(h2 pos).mono fun l ρ σ h p v a hv=>?_
  obtain rfl:=v_ref (toR_some e▸hv)
  obtain ⟨⟨c,b,s,cl,hm⟩,hw⟩:=h.ok
  obtain ⟨o,fd,g,d,_⟩:=a.I.cells _ hm
  exact ⟨kl_fn g d,hw⟩
end
end
section
open Builtin Builtin.ObjectAttr
set_option tactic.hygienic false
theorem den_ok (ns cn:List Str) (t:T):∀ e∈den ns cn t,okE e=true:=by
 have one:∀ x,okE x=true→∀ e∈[x],okE e=true:=fun x h e m=>(List.mem_singleton.mp m)▸h
 induction t with
 | cons a r _ ih=>
  intro e m
  rcases List.mem_cons.mp m with rfl|m
  ·exact ok_hd ns cn a
  ·exact ih e m
 | raw e=>exact one _ (rawE_ok e)
 | nil=>exact fun _ m=>nomatch m
 | _=>first|exact one _ rfl|exact fun _ m=>nomatch m
section
variable {Q:Bt} {n:Nat} {A:Around} {env:Env} {σ σ':St} {ρ:Rho} {p:Po} {W:Wd} {h:Heap} {K:AV→Rho→St→Prop}
noncomputable def WAs (Q:Bt) (n:Nat) (env:Env):List Expr→List AV→Rho→St→(Rho→St→Prop)→Prop
 | [],[],ρ,σ,Φ=>Φ ρ σ
 | e::es,d::ds,ρ,σ,Φ=>WA Q n env e d ρ σ fun ρ σ=>WAs Q n env es ds ρ σ Φ
 | _,_,_,_,_=>False
theorem ok_each {e:Expr} (h:okE e=true) (es:List Expr):assignEach (e::es) env=(false,assign e env)::assignEach es env:=by cases e<;>first|rfl|exact ffE h|exact tfE h|exact noE h|cases h
theorem inOrder (R:Room A n) {Φ:Rho→St→Prop} {G:Unit→Shared→Prop} {es:List Expr} {ds:List AV} {vs:List Value} (ho:∀ e∈es,okE e=true) (h:WAs Q n env es ds ρ σ Φ) (a:At Q env ρ σ p) (hv:VL Q p.W.F vs ds)
  (k:∀ (ρ':Rho) (σ':St) (q:Po),At Q env ρ' σ' q→Bh (some env.locals) p q→Φ ρ' σ'→G () q.s):WP Q A (assignInOrder ((assignEach es env).map (·.2)) vs) G p.s:=by
 induction es generalizing ds vs ρ σ p with
 | nil=>cases ds with
  | nil=>cases vl_0 hv;exact wpAny_pure (k ρ σ p a (Bh.refl _ _) h)
  | cons _ _=>exact h.elim
 | cons e es ih=>cases ds with
  | nil=>exact h.elim
  | cons d ds=>
   obtain ⟨v,vs,rfl,h1,r⟩:=vl_c hv
   rw [ok_each (ho e (.head _))]
   show WP Q A (holding vs (assign e env v)>>=fun _=>assignInOrder ((assignEach es env).map (·.2)) vs) G p.s
   exact wpAny_bind (wpAny_holding (h A p v _ R a h1 fun ρ₁ σ₁ p₁ o₁ x₁ h₁=>ih (fun e m=>ho e (.tail _ m)) h₁ o₁ (x₁.VL r) fun ρ' σ' q o x φ=>k ρ' σ' q o (x₁.trans x) φ))
theorem each_len {es:List Expr}:(assignEach es env).length=es.length:=by
 induction es with
 | nil=>rfl
 | cons e es ih=>
  have:∃ x,assignEach (e::es) env=x::assignEach es env:=by cases e<;>exact ⟨_,rfl⟩
  obtain ⟨x,hx⟩:=this
  rw [hx,List.length_cons,List.length_cons,ih]
theorem each_star {es:List Expr} (ho:∀ e∈es,okE e=true):(assignEach es env).findIdx? (·.1)=none:=by
 induction es with
 | nil=>rfl
 | cons e es ih=>rw [ok_each (ho e (.head _)),List.findIdx?_cons,ih fun e m=>ho e (.tail _ m)];rfl
theorem At.keeps {h':Heap} (a:At Q env ρ σ p) (k:∀ b o,p.s.heap.get? b=some o→h'.get? b=some o):At Q env ρ σ ⟨p.W,{ p.s with heap:=h' }⟩∧Bh none p ⟨p.W,{ p.s with heap:=h' }⟩:=
 have x:Bh none p ⟨p.W,{ p.s with heap:=h' }⟩:=Ext.keeps k rfl rfl rfl
 ⟨a.ext x (a.I.keeps k),x⟩
theorem a_tup {es:List Expr} {c:Nat} {pos:Pos} {d:AV} {Φ:Rho→St→Prop} (ho:∀ e∈es,okE e=true) (h:asT d fun l=>bif Nat.beq l.length es.length then WAs Q n env es l ρ σ Φ else False):WA Q n env (.Tuple es c pos) d ρ σ Φ:=fun A p v G R a hv k=>by
 obtain ⟨l,rfl,h⟩:=asT_tup h
 obtain ⟨e,h⟩:=bif_true h
 obtain ⟨b,vs,m,rfl,e',hl⟩:=v_tup hv
 have ht:=a.I.frz _ _ e'
 refine assign_Tuple_tuple R.hd ⟨_,ht,rfl,_,rfl⟩ (each_len.trans ((Nat.eq_of_beq_eq_true e).symm.trans (vl_size hl).symm)) (each_star ho) fun h' hk=>?_
 obtain ⟨a',x⟩:=a.keeps fun b o e=>hk b o (Nat.ne_of_lt (Heap.lt_size e)) e
 exact inOrder R ho h a' hl fun ρ' σ' q o x' φ=>k ρ' σ' q o (x.wide.trans x') φ
theorem new_lsf {vs:Array Value} {l:List AV} (a:At Q env ρ σ p) (h:VL Q p.W.F vs.toList l) {G:Value→Shared→Prop} (k:∀ (q:Po) (x:Value),At Q env ρ σ q→Bh none p q→V Q q.W.F x (.lst l)→G x q.s):G (.ref p.s.heap.objs.size) { p.s with heap:=p.s.heap.push { cls:=.type "list",data:=.seq vs } }:=
 have x:Bh none p ⟨p.W.freeze p.s.heap.objs.size { cls:=.type "list",data:=.seq vs },{ p.s with heap:=p.s.heap.push { cls:=.type "list",data:=.seq vs } }⟩:=Ext.pushF a.I { cls:=.type "list",data:=.seq vs } p.s.toks
 k ⟨p.W.freeze p.s.heap.objs.size _,_⟩ _ (a.ext x (a.I.pushF rfl)) x (.lst (vs:=vs) (n:=0) Wd.freeze_self (h.mono (Wd.freeze_le a.I.F_none)))
theorem e_lst {es:List Expr} {fz:Bool} {pos:Pos} (h:WL Q n env es ρ σ fun l ρ σ=>bif Nat.ble l.length 1000 then (bif fz then K (.lst l) ρ σ else Stop (∀ a,K (.ref a) ρ ((a,.lst l)::σ))) else False):WE Q n env (.List es pos) ρ σ K:=fun A p G R a k=>by
 show WP Q A (standAt pos>>=fun _=>spliced (backTo pos (starEach es env))>>=fun vs=>newList vs) G p.s
 refine wpAny_bind (wpAny_standAt (wpAny_bind (h pos A p _ R a fun ρ₁ σ₁ p₁ vs l o₁ x₁ r₁ h₁=>?_)))
 obtain ⟨e,h₁⟩:=bif_true h₁
 refine wpAny_newList ?_ (by rw [vl_len r₁];exact sl3 (Nat.le_of_ble_eq_true e))
 cases fz with
 | true=>exact new_lsf (vs:=vs.toArray) o₁ r₁ fun q x o x' hx=>k _ _ q x _ o (x₁.trans x'.wide) hx h₁
 | false=>exact new_lst (vs:=vs.toArray) o₁ r₁ fun q D o x'=>k _ _ q _ _ o (x₁.trans x'.wide) (.ref D) (Stop.ok h₁ D)
theorem e_ife01 {t:Expr} {i j:Int} {k k':Nat} {p p' pos:Pos} (h:WT Q n env t ρ σ fun c ρ σ=>K (.int (if c then i else j)) ρ σ):WE Q n env (.IfExp t (.Constant (.int i) k p) (.Constant (.int j) k' p') pos) ρ σ K:=
 e_ife (h.mono fun c ρ σ h=>by
  cases c with
  | true=>exact e_con (c:=.int i) h
  | false=>exact e_con (c:=.int j) h)
end
theorem bif_mono {b:Bool} {P R:Prop} (h:bif b then P else False) (k:P→R):bif b then R else False:=by
 cases b with
 | true=>exact k h
 | false=>exact h
theorem Br.mono {c:Bool} {P R P' R':Prop} (h:Br c P R) (k:P→P') (k':R→R'):Br c P' R':=by
 cases c with
 | true=>exact k h
 | false=>exact k' h
theorem alt_mono {α:Type} {o:Option α} {K K':α→Prop} {E E':Prop} (h:alt o K E) (k:∀ x,K x→K' x) (k':E→E'):alt o K' E':=by
 cases o with
 | some x=>exact k x h
 | none=>exact k' h
theorem Stop.mono {P R:Prop} (h:Stop P) (k:P→R):Stop R:=⟨k h.ok⟩
theorem icmp_mono {op:CmpOp} {i j:Int} {K K':Bool→Prop} (h:icmpR op i j K) (k:∀ c,K c→K' c):icmpR op i j K':=by cases op<;>first|exact k _ h|exact h
theorem cmpS_mono {Q:Bt} {op:CmpOp} {a b:AV} {σ:St} {K K':Bool→Prop} (h:CmpS Q σ op a b K) (k:∀ c,K c→K' c):CmpS Q σ op a b K':=h.imp fun c q=>⟨q.1,k c q.2⟩
theorem cmp_mono {Q:Bt} {op:CmpOp} {a b:AV} {σ:St} {K K':Bool→Prop} (h:cmpR Q op a b σ K) (k:∀ c,K c→K' c):cmpR Q op a b σ K':=
 alt_mono h (fun i h=>alt_mono h (fun j h=>icmp_mono h k) fun h=>h.mono fun h=>cmpS_mono h k) fun h=>h.mono fun h=>cmpS_mono h k
theorem truR_mono {d:AV} {K K':Bool→Prop} (h:truR d K) (k:∀ c,K c→K' c):truR d K':=alt_mono h k fun h=>bif_mono h (k false)
section
variable {C:Cn} {sc:Scope}
noncomputable def Says (C:Cn) (m:Md) (t:T) (ρ:Rho) (σ:St) (K:Kt):Prop:=match m with
 | .e=>WE C.Q C.n C.env (C.E t) ρ σ K
 | .l=>WL C.Q C.n C.env (C.L t) ρ σ fun l ρ σ=>K (.tup l) ρ σ
 | .t=>WT C.Q C.n C.env (C.E t) ρ σ fun c ρ σ=>K (.bool c) ρ σ
 | .a d=>WA C.Q C.n C.env (C.E t) d ρ σ fun ρ σ=>∃ d,K d ρ σ
 | .s l=>WAs C.Q C.n C.env (C.L t) l ρ σ fun ρ σ=>∃ d,K d ρ σ
theorem asT_mono {d:AV} {K K':List AV→Prop} (h:asT d K) (k:∀ l,K l→K' l):asT d K':=by
 obtain ⟨l,rfl,h⟩:=asT_tup h
 exact k l h
theorem opt_mono {α:Type} {o:Option α} {K K':α→Prop} (h:opt o K) (k:∀ l,K l→K' l):opt o K':=by
 obtain ⟨l,rfl,h⟩:=opt_some h
 exact k l h
theorem WA.mono {Q:Bt} {n:Nat} {env:Env} {e:Expr} {d:AV} {ρ:Rho} {σ:St} {Φ Φ':Rho→St→Prop} (h:WA Q n env e d ρ σ Φ) (k:∀ ρ σ,Φ ρ σ→Φ' ρ σ):WA Q n env e d ρ σ Φ':=fun A p v G r a hv z=>h A p v G r a hv fun ρ' σ' q b x φ=>z ρ' σ' q b x (k _ _ φ)
theorem isI_E (C:Cn) {t:T} {i:Int} (h:isI t=some i):∃ k p,C.E t=.Constant (.int i) k p:=by
 cases t with
 | con c k p=>cases c<;>cases h;exact ⟨k,p,rfl⟩
 | _=>first|exact ffE h|exact tfE h|exact noE h|cases h
theorem isG_E (C:Cn) {t:T} {i:Nat} (h:isG t=some i):∃ p,C.E t=.Name (gN i) p:=by
 cases t with
 | glb j p=>cases h;exact ⟨p,rfl⟩
 | _=>first|exact ffE h|exact tfE h|exact noE h|cases h
section
variable {ih:Ih} (I:∀ m t ρ σ K,ih m t ρ σ K→Says C m t ρ σ K)
include I
theorem Ee {t:T} {ρ:Rho} {σ:St} {K:Kt} (h:ih .e t ρ σ K):WE C.Q C.n C.env (C.E t) ρ σ K:=I .e _ _ _ _ h
theorem L {t:T} {ρ:Rho} {σ:St} {K:List AV→Rho→St→Prop} (h:ih .l t ρ σ fun l ρ σ=>asT l fun l=>K l ρ σ):WL C.Q C.n C.env (C.L t) ρ σ K:=fun pos=>(show WL C.Q C.n C.env (C.L t) ρ σ _ from I .l _ _ _ _ h) pos |>.mono fun l ρ σ h=>h
theorem Tt {t:T} {ρ:Rho} {σ:St} {K:Bool→Rho→St→Prop} (h:ih .t t ρ σ fun c ρ σ=>asB c fun c=>K c ρ σ):WT C.Q C.n C.env (C.E t) ρ σ K:=(show WT C.Q C.n C.env (C.E t) ρ σ _ from I .t _ _ _ _ h).mono fun l ρ σ h=>h
theorem step_l {t:T} {ρ:Rho} {σ:St} {K:Kt} (h:stepL ih t ρ σ K):Says C .l t ρ σ K:=by
 cases t with
 | nil=>exact l_nil h
 | cons a r=>exact l_cons ((Ee I h).mono fun d ρ σ h=>L I h) (ok_star (ok_hd ..) _)
 | _=>exact h.elim
theorem step_p {l:List AV} {t:T} {ρ:Rho} {σ:St} {K:Kt} (h:stepP ih l t ρ σ K):Says C (.s l) t ρ σ K:=by
 cases t with
 | nil=>cases l with
  | nil=>exact ⟨_,h⟩
  | cons _ _=>exact h.elim
 | cons a r=>cases l with
  | nil=>exact h.elim
  | cons x l=>exact (show WA C.Q C.n C.env (C.E a) x ρ σ _ from I (.a x) a _ _ _ h).mono fun ρ σ h=>h.elim fun _ h=>I (.s l) r _ _ _ h
 | _=>exact h.elim
variable (O:Cok C sc)
include O
theorem step_a {d:AV} {t:T} {ρ:Rho} {σ:St} {K:Kt} (h:stepA C ih d t ρ σ K):Says C (.a d) t ρ σ K:=by
 cases t with
 | loc i p=>exact (a_loc O h).mono fun _ _ h=>⟨_,h⟩
 | cel i p=>exact (a_cel O h).mono fun _ _ h=>⟨_,h⟩
 | att o t p=>exact (a_att (Φ:=fun ρ σ=>K .none ρ σ) O.X (Ee I h) lay_900).mono fun _ _ h=>⟨_,h⟩
 | sub o i p=>exact (a_sub (Φ:=fun ρ σ=>K .none ρ σ) ((Ee I h).mono fun d ρ σ h=>Ee I h)).mono fun _ _ h=>⟨_,h⟩
 | tup es k p=>exact a_tup (den_ok C.ns C.cn es) (asT_mono h fun l h=>bif_mono h fun h=>I (.s l) es ρ σ K h)
 | _=>exact h.elim
theorem step_t {t:T} {ρ:Rho} {σ:St} {K:Kt} (h:stepT C ih t ρ σ K):Says C .t t ρ σ K:=by
 cases t with
 | cmp op l r p=>exact t_cmp ((Ee I h).mono fun d ρ σ h=>Ee I h) (ok_mark (ok_hd ..) _)
 | chn o₁ o₂ a m z p=>exact t_chn ((Ee I h).mono fun d ρ σ h=>(Ee I h).mono fun d' ρ σ h=>cmp_mono h fun c h=>Br.mono h (Ee I) id) (ok_mark (ok_hd ..) _)
 | un op x p=>cases op with
  | Not=>exact t_not (Tt I h)
  | _=>exact h.elim
 | bop op es p=>cases es with
  | nil=>cases op with
   | And=>exact t_and0 h
   | Or=>exact t_or0 h
  | cons x r=>cases op with
   | And=>exact t_and ((Tt I h).mono fun c ρ σ h=>Br.mono h (I .t _ _ _ _) id)
   | Or=>exact t_or ((Tt I h).mono fun c ρ σ h=>Br.mono h id (I .t _ _ _ _))
  | _=>exact h.elim
 | ife=>exact h.elim
 | raw=>exact h.elim
 | cons=>exact h.elim
 | _=>exact t_plain (Ee I h) fun _=>rfl
theorem step_e {t:T} {ρ:Rho} {σ:St} {K:Kt} (h:stepE C ih t ρ σ K):Says C .e t ρ σ K:=by
 cases t with
 | loc i p=>exact e_loc O h
 | cel i p=>exact e_cel O h
 | glb j p=>exact e_glob O h
 | con c k p=>exact e_con h
 | bin op l r p=>exact e_bin ((Ee I h).mono fun d ρ σ h=>Ee I h)
 | un op x p=>exact e_un (Ee I h)
 | cmp op l r p=>exact e_cmp ((Ee I h).mono fun d ρ σ h=>Ee I h) (ok_mark (ok_hd ..) _)
 | chn o₁ o₂ a m z p=>exact e_chn ((Ee I h).mono fun d ρ σ h=>(Ee I h).mono fun d' ρ σ h=>cmp_mono h fun c h=>Br.mono h (Ee I) id) (ok_mark (ok_hd ..) _)
 | bop op es p=>cases es with
  | cons x r=>cases r with
   | nil=>exact e_one (Ee I h)
   | cons y r=>cases op with
    | Or=>exact e_or ((Ee I h).mono fun d ρ σ h=>truR_mono h fun c h=>Br.mono h id (Ee I))
    | And=>exact h.elim
   | _=>exact h.elim
  | _=>exact h.elim
 | ife t b o p=>
  cases eb:isI b with
  | none=>exact e_ife ((Tt I h).mono fun c ρ σ h=>Br.mono (by rw [eb] at h;exact h) (Ee I) (Ee I))
  | some i=>cases eo:isI o with
   | none=>exact e_ife ((Tt I h).mono fun c ρ σ h=>Br.mono (by rw [eb,eo] at h;exact h) (Ee I) (Ee I))
   | some j=>
    obtain ⟨k,q,e⟩:=isI_E C eb
    obtain ⟨k',q',e'⟩:=isI_E C eo
    show WE C.Q C.n C.env (.IfExp (C.E t) (C.E b) (C.E o) p) ρ σ K
    rw [e,e']
    exact e_ife01 ((Tt I h).mono fun c ρ σ h=>by rw [eb,eo] at h;exact h)
 | tup es k p=>exact e_tup (L I h)
 | lst fz es p=>exact e_lst (L I h)
 | att o t p=>obtain ⟨e,h⟩:=bif_true h;exact e_att O e (Ee I h)
 | sub o i p=>exact e_sub ((Ee I h).mono fun d ρ σ h=>Ee I h) (ok_slice (ok_hd ..))
 | cal f args p=>
  refine (alt_or h).elim (fun h1=>?_) fun h1=>?_
  ·obtain ⟨j,e,h2⟩:=h1
   obtain ⟨q,e⟩:=isG_E C e
   show WE C.Q C.n C.env (.Call (C.E f) (C.L args) [] p) ρ σ K
   rw [e]
   exact e_cG O (bif_mono h2 fun h=>opt_mono h fun t h=>L I h)
  ·obtain ⟨e,h2⟩:=bif_true h1
   exact e_cV O e ((Ee I h2).mono fun d ρ σ h=>alt_mono h (fun j h=>L I h) fun h=>opt_mono h fun a h=>L I h)
 | mth o k j ap args p=>
  obtain ⟨e,h⟩:=bif_true h
  exact e_own O e ((Ee I h).mono fun d ρ σ h=>opt_mono h fun a h=>h.mono fun h=>h.imp fun c q=>⟨q.1,by
   obtain ⟨k',fs,rfl,h⟩:=asI_inst q.2
   exact bif_mono h fun h pos=>(L I h pos).mono fun l ρ σ h=>h.ok⟩)
 | mtb o b ap args p=>
  obtain ⟨e,h⟩:=bif_true h
  exact e_mtb O e ((Ee I h).mono fun d ρ σ h=>alt_mono h (fun x h=>bif_mono h fun h pos=>(L I h pos).mono fun l ρ σ h=>h.ok) fun h=>opt_mono h fun a h=>h.mono fun h=>h.imp fun c q=>⟨q.1,bif_mono q.2 fun h pos=>(L I h pos).mono fun l ρ σ h=>h.ok⟩)
 | opi p₀ ap args p=>obtain ⟨e,h⟩:=bif_true h;exact e_opi O e fun pos=>(L I h pos).mono fun l ρ σ h=>h.ok
 | raw e=>exact h.ok
 | _=>exact h.elim
end
theorem runE_ok (O:Cok C sc) (f:Nat):∀ m t ρ σ K,runE C f m t ρ σ K→Says C m t ρ σ K:=by
 induction f with
 | zero=>exact fun _ _ _ _ _ h=>h.elim
 | succ f ih=>
  intro m t ρ σ K h
  cases m with
  | e=>exact step_e ih O h
  | l=>exact step_l ih h
  | t=>exact step_t ih O h
  | a d=>exact step_a ih O h
  | s l=>exact step_p ih h
end
end
section
open Builtin Builtin.ObjectAttr
set_option tactic.hygienic false
noncomputable def Wd.drop (W:Wd) (a:Addr):Wd:={ F:=W.F,own:=fun b=>if W.own b=some a then none else W.own b }
theorem Wd.drop_none {W:Wd} {a b:Addr} (h:W.own b=none):(W.drop a).own b=none:=by
 show (if W.own b=some a then none else W.own b)=none
 rw [h];rfl
theorem Wd.drop_own {W:Wd} {a b:Addr} (h:W.own b=some a):(W.drop a).own b=none:=if_pos h
theorem Wd.drop_some {W:Wd} {a b x:Addr} (h:(W.drop a).own b=some x):W.own b=some x:=by
 have e':(if W.own b=some a then none else W.own b)=some x:=h
 split at e'
 ·cases e'
 ·exact e'
theorem Wd.drop_ne {W:Wd} {a b x:Addr} (h:W.own b=some x) (ne:x≠a):(W.drop a).own b=some x:=(if_neg fun q=>ne (Option.some.inj (h.symm.trans q))).trans h
section
variable {Q:Bt} {n:Nat} {env:Env} {σ σ':St} {ρ:Rho} {p q:Po} {W:Wd} {h h':Heap}
theorem ne_of_nd {a:Addr} {c:Cell} (nd:(((a,c)::σ).map (·.1)).Nodup) {x:Addr × Cell} (hx:x∈σ):x.1≠a:=fun e=>(List.nodup_cons.mp nd).1 (e▸(List.mem_map_of_mem hx:x.1∈σ.map (·.1)))
theorem Inv.drop {a:Addr} {c:Cell} (I:Inv Q W ((a,c)::σ) h):Inv Q (W.drop a) σ h:=
 ⟨I.frz,fun b o e=>Wd.drop_none (I.frzO b o e),fun b x e=>I.live b x (Wd.drop_some e),
  fun x hx=>(I.cells x (.tail _ hx)).keep (FLe.refl _) (fun b e=>Wd.drop_ne e (ne_of_nd I.nd hx)) (fun b o _ e=>e) fun b o e=>I.frz b o e,(List.nodup_cons.mp I.nd).2,fun b o e=>⟨(I.base b o e).1,Wd.drop_none (I.base b o e).2⟩⟩
theorem Inv.loose {wr:List Addr} (I:Inv Q W σ h) (hw:∀ b∈wr,W.own b=none∧W.F b=none∧Q.hB.get? b=none) (k:∀ b o,b∉wr→h.get? b=some o→h'.get? b=some o):Inv Q W σ h':=
 have kF:∀ b o,W.F b=some o→h'.get? b=some o:=fun b o e=>k b o (fun q=>nomatch (hw b q).2.1.symm.trans e) (I.frz b o e)
 have kO:∀ b x o,W.own b=some x→h.get? b=some o→h'.get? b=some o:=fun b x o e g=>k b o (fun q=>nomatch (hw b q).1.symm.trans e) g
 ⟨kF,I.frzO,fun b x e=>(I.live b x e).imp fun o g=>kO b x o e g,fun x hx=>(I.cells x hx).keep (FLe.refl _) (fun _ e=>e) (fun b o e g=>kO b _ o e g) kF,I.nd,
  fun b o e=>⟨k b o (fun q=>nomatch (hw b q).2.2.symm.trans e) (I.base b o e).1,(I.base b o e).2⟩⟩
theorem FrOk.loose {wr:List Addr} {t:Nat} (F:FrOk Q env ρ p) (hL:env.locals∉wr) (k:∀ b o,b∉wr→p.s.heap.get? b=some o→h'.get? b=some o):FrOk Q env ρ ⟨p.W,{ p.s with heap:=h',toks:=t }⟩:=by
 obtain ⟨m,⟨o,es,ep,ho,r⟩,hm⟩:=F.ns
 exact ⟨⟨m,⟨o,es,ep,k _ o hL ho,r⟩,hm⟩,F.own,F.F,F.base,F.len⟩
theorem At.loose {wr:List Addr} {t:Nat} (a:At Q env ρ σ p) (hw:∀ b∈wr,p.W.own b=none∧p.W.F b=none∧Q.hB.get? b=none) (hL:env.locals∉wr) (k:∀ b o,b∉wr→p.s.heap.get? b=some o→h'.get? b=some o):At Q env ρ σ ⟨p.W,{ p.s with heap:=h',toks:=t }⟩:=⟨a.I.loose hw k,a.F.loose hL k⟩
theorem Bh.loose {X:Option Addr} {wr:List Addr} {t:Nat} (x:Bh X p q) (hw:∀ b∈wr,p.W.own b≠none) (k:∀ b o,b∉wr→q.s.heap.get? b=some o→h'.get? b=some o):Bh X p ⟨q.W,{ q.s with heap:=h',toks:=t }⟩:=
 ⟨x.F,fun b o e g=>by
  obtain ⟨u1,u2,⟨o',u3⟩,u4⟩:=x.un b o e g
  have hb:b∉wr:=fun q=>hw b q e
  exact ⟨u1,u2,⟨o',k b o' hb u3⟩,fun hX=>k b o hb (u4 hX)⟩,x.gens,x.drawn,x.os⟩
theorem Bh.drop {X:Option Addr} {a:Addr} (x:Bh X p q):Bh X p ⟨q.W.drop a,q.s⟩:=
 ⟨x.F,fun b o e g=>let ⟨u1,u2,u3,u4⟩:=x.un b o e g;⟨Wd.drop_none u1,u2,u3,u4⟩,x.gens,x.drawn,x.os⟩
theorem WP.any {α:Type} {A:Around} {t:Sem α} {G:α→Shared→Prop} {E:Value→Shared→Prop} {s:Shared} (h:WP Q A t G s):wpAny (model Q.prog Q.w) A t G E s:=wpAny_mono h (fun _ _ z=>z) fun _ _ z=>z.elim
structure Held (Q:Bt) (p:Po) (L a:Addr) (tk:Bool) (l:List AV) (fp wr:List Addr) (n:Nat) (P Md:Nat→Value→Heap→Prop) (St:Nat→Heap→Prop) (i:Nat):Prop where
 turns:∀ A:Around,A.handled=none→∀ tgt,tgtOk tk tgt=true→∃ wr':List Addr,(∀ b∈wr',b∈wr)∧KTurns Q.prog Q.w A tgt a fp wr' n P Md St
 live:∀ i h,St i h→∀ b∈wr,∃ o,h.get? b=some o
 st:St i p.s.heap
 len:i+l.length=n
 loose:∀ b∈wr,p.W.own b=none∧p.W.F b=none∧Q.hB.get? b=none
 fr:L∉wr
 fp:∀ b∈fp,b∈wr∨(∃ o,p.W.F b=some o∧p.s.heap.get? b=some o)
 vals:∀ j d,l[j]?=some d→∀ v h',P (i+j) v h'→ItV Q p.W.F h' tk v d
theorem Held.of {a:Addr} {tk:Bool} {l:List AV} (b:At Q env ρ ((a,.itr tk l)::σ) p):
  ∃ fp wr m P Md St i,Held Q ⟨p.W.drop a,p.s⟩ env.locals a tk l fp wr m P Md St i∧∀ b∈wr,p.W.own b=some a:=by
 obtain ⟨o,fp,wr,m,P,Md,St,i,hw,hse,hv,ha,hst,hl,h1,h2,h3⟩:=b.I.cells (a,.itr tk l) (.head _)
 refine ⟨fp,wr,m,P,Md,St,i,⟨hw,hv,hst,hl,fun c hc=>⟨Wd.drop_own (h1 c hc),?_,?_⟩,fun q=>Option.noConfusion rfl (heq_of_eq ((h1 _ q).symm.trans b.F.own)),h2,h3⟩,h1⟩
 ·cases q:p.W.F c with
  | none=>exact q
  | some o=>exact nomatch (h1 c hc).symm.trans (b.I.frzO c o q)
 ·cases q:Q.hB.get? c with
  | none=>rfl
  | some o=>exact nomatch (h1 c hc).symm.trans (b.I.base c o q).2
noncomputable def tgt0 (tk:Bool):Expr:=if tk then .Tuple [] 0 default else .Name default default
theorem tgt0_ok (tk:Bool):tgtOk tk (tgt0 tk)=true:=by cases tk<;>rfl
section
variable {L a:Addr} {tk:Bool} {l:List AV} {fp wr:List Addr} {m:Nat} {P Md:Nat→Value→Heap→Prop} {St:Nat→Heap→Prop} {i:Nat}
theorem Held.keep (H:Held Q p L a tk l fp wr m P Md St i) (x:Bh (some L) p q) (I':Inv Q q.W σ' q.s.heap):Held Q q L a tk l fp wr m P Md St i:=by
 have key:∀ b∈wr,∀ o,p.s.heap.get? b=some o→q.W.own b=none∧q.W.F b=none∧q.s.heap.get? b=some o:=fun b hb o g=>by
  obtain ⟨u1,u2,u3,u4⟩:=x.un b o (H.loose b hb).1 g
  exact ⟨u1,u2 (H.loose b hb).2.1,u4 fun e=>H.fr (Option.some.inj e▸hb)⟩
 have kf:∀ b∈fp,∀ o,p.s.heap.get? b=some o→q.s.heap.get? b=some o:=fun b hb o e=>by
  rcases H.fp b hb with z|⟨o',z,e'⟩
  ·exact (key b z o e).2.2
  ·rw [e] at e';cases e';exact I'.frz b o (x.F _ _ z)
 refine ⟨H.turns,H.live,?_,H.len,fun b hb=>?_,H.fr,fun b hb=>(H.fp b hb).imp id fun ⟨o',z,e'⟩=>⟨o',x.F _ _ z,kf b hb _ e'⟩,fun j d e v h' p=>(H.vals j d e v h' p).mono x.F⟩
 ·obtain ⟨_,_,T⟩:=H.turns {} rfl _ (tgt0_ok tk)
  exact T.frame i p.s.heap q.s.heap H.st kf
 ·obtain ⟨o,g⟩:=H.live i _ H.st b hb
  obtain ⟨a1,a2,_⟩:=key b hb o g
  exact ⟨a1,a2,(H.loose b hb).2.2⟩
theorem Held.next {d:AV} {t:Nat} {h₂:Heap} (H:Held Q p L a tk (d::l) fp wr m P Md St i) (hst:St (i+1) h₂) (I₂:Inv Q p.W σ h₂):Held Q ⟨p.W,{ p.s with heap:=h₂,toks:=t }⟩ L a tk l fp wr m P Md St (i+1):=
 ⟨H.turns,H.live,hst,(Nat.succ_add_eq_add_succ i l.length).trans H.len,H.loose,H.fr,fun b hb=>(H.fp b hb).imp id fun ⟨o',z,e'⟩=>⟨o',z,I₂.frz _ _ z⟩,fun j d' e v' h' p=>H.vals (j+1) d' e v' h' ((Nat.succ_add_eq_add_succ i j)▸p)⟩
theorem Held.turn {A:Around} {E:Value→Shared→Prop} {X:Option Addr} {p₀:Po} {target:Expr} {G0:Shared→Prop} {G1:Value→Shared→Prop} (H:Held Q p env.locals a tk l fp wr m P Md St i) (hA:A.handled=none) (ht:tgtOk tk target=true) (hw:∀ b∈wr,p₀.W.own b≠none) (x:Bh X p₀ p) (b:At Q env ρ σ p)
  (hN:l=[]→∀ q,At Q env ρ σ q→Bh X p₀ q→(∀ b o,b∉wr→p.s.heap.get? b=some o→q.s.heap.get? b=some o)→q.W=p.W→G0 q.s)
  (hS:∀ d l',l=d::l'→∀ (v:Value) q,At Q env ρ σ q→Bh X p₀ q→Held Q q env.locals a tk l' fp wr m P Md St (i+1)→ItV Q q.W.F q.s.heap tk v d→(∀ b o,b∉wr→p.s.heap.get? b=some o→q.s.heap.get? b=some o)→q.W=p.W→G1 v q.s):
  wpAny (model Q.prog Q.w) A (pyNext (.ref a)) (fun r s₁=>match r with
   | none=>G0 s₁
   | some v=>wpAny (model Q.prog Q.w) A (letOwnedTupleGo target (.ref a) v) (fun _ s₂=>G1 v s₂) E s₁) E p.s:=by
 obtain ⟨wr',hsub,T⟩:=H.turns A hA target ht
 have hl:=H.len
 cases l with
 | nil=>
  subst hl
  refine T.done p.s _ _ H.st fun h₁ tk₁ hk'=>?_
  have hk:∀ b o,b∉wr→p.s.heap.get? b=some o→h₁.get? b=some o:=fun b o hb g=>hk' b o (fun q=>hb (hsub b q)) g
  exact hN rfl ⟨p.W,{ p.s with heap:=h₁,toks:=tk₁ }⟩ (b.loose H.loose H.fr hk) (x.loose hw hk) hk rfl
 | cons d l=>
  have hi:i < m:=hl▸Nat.lt_add_of_pos_right (Nat.zero_lt_succ _)
  refine T.item i p.s _ _ hi H.st fun v h₁ tk₁ hMd hk₁=>?_
  refine T.go i v _ _ _ hMd fun h₂ hP hst hk₂=>?_
  have hk:∀ b o,b∉wr→p.s.heap.get? b=some o→h₂.get? b=some o:=fun b o hb g=>hk₂ b o (fun q=>hb (hsub b q)) (hk₁ b o (fun q=>hb (hsub b q)) g)
  have b':At Q env ρ σ ⟨p.W,{ p.s with heap:=h₂,toks:=tk₁ }⟩:=b.loose H.loose H.fr hk
  exact hS d l rfl v ⟨p.W,{ p.s with heap:=h₂,toks:=tk₁ }⟩ b' (x.loose hw hk) (H.next (t:=tk₁) hst b'.I) (H.vals 0 d rfl v h₂ (by rwa [Nat.add_zero])) hk rfl
end
noncomputable def WTg (Q:Bt) (n:Nat) (env:Env):Bool→Expr→AV→Rho→St→(Rho→St→Prop)→Prop
 | false,t,d,ρ,σ,Φ=>WA Q n env t d ρ σ Φ
 | true,.Tuple es _ _,d,ρ,σ,Φ=>asT d fun ds=>bif Nat.beq ds.length es.length then (∀ e∈es,okE e=true)∧WAs Q n env es ds ρ σ Φ else False
 | _,_,_,_,_,_=>False
theorem at_target {A:Around} {tk:Bool} {target:Expr} {v:Value} {d:AV} {Φ:Rho→St→Prop} {G:Unit→Shared→Prop} (R:Room A n) (a:At Q env ρ σ p) (hv:ItV Q p.W.F p.s.heap tk v d) (h:WTg Q n env tk target d ρ σ Φ)
  (k:∀ (ρ':Rho) (σ':St) (q:Po),At Q env ρ' σ' q→Bh (some env.locals) p q→Φ ρ' σ'→G () q.s):WP Q A (assign target env v) G p.s:=by
 have tup:∀ {T:Addr} {vals:Array Value} {ds:List AV},p.s.heap.IsTuple T vals→VL Q p.W.F vals.toList ds→WTg Q n env true target (.tup ds) ρ σ Φ→WP Q A (assign target env (.ref T)) G p.s:=fun {T vals ds} e hvl h=>by
  cases target with
  | Tuple es c pos=>
   obtain ⟨e',h1,h2⟩:=bif_true (show bif Nat.beq ds.length es.length then (∀ e∈es,okE e=true)∧WAs Q n env es ds ρ σ Φ else False from h)
   obtain ⟨o,ho,hc,m,hd⟩:=e
   refine assign_Tuple_tuple R.hd ⟨o,ho,hc,m,hd⟩ (each_len.trans ((Nat.eq_of_beq_eq_true e').symm.trans (vl_size hvl).symm)) (each_star h1) fun h' hk=>?_
   obtain ⟨a',x⟩:=a.keeps fun b o e=>hk b o (Nat.ne_of_lt (Heap.lt_size e)) e
   exact inOrder R h1 h2 a' hvl fun ρ' σ' q o x' φ=>k ρ' σ' q o (x.wide.trans x') φ
  | _=>exact h.elim
 cases hv with
 | val hv=>exact h A p v G R a hv k
 | frz hv=>
  obtain ⟨b,vs,m,rfl,e,hl⟩:=v_tup hv
  exact tup ⟨_,a.I.frz _ _ e,rfl,_,rfl⟩ hl h
 | tup e hvl=>exact tup e hvl h
inductive ForJ (Q:Bt) (env:Env) (a:Addr) (tk:Bool) (fp wr:List Addr) (m:Nat) (P Md:Nat→Value→Heap→Prop) (St':Nat→Heap→Prop) (p₁:Po) (as:AV→Rho→St→Kt→Prop) (bd:Rho→St→Ks→Prop) (Φ:Ks) (k:Nat) (s':Shared):Prop
 | mk (q:Po) (l:List AV) (i:Nat) (ρ':Rho) (σ':St) (e:s'=q.s) (x:Bh (some env.locals) p₁ q) (b:At Q env ρ' σ' q) (H:Held Q q env.locals a tk l fp wr m P Md St' i) (h:forR as bd l ρ' σ' Φ) (ek:k=l.length)
theorem loop_for {A:Around} {a:Addr} {tk:Bool} {target:Expr} {body:List Stmt} {Φ:Ks} {as:AV→Rho→St→Kt→Prop} {bd:Rho→St→Ks→Prop} {fp wr:List Addr} {m:Nat} {P Md:Nat→Value→Heap→Prop} {St':Nat→Heap→Prop} {l:List AV} {i:Nat} {Rr:Result→Shared→Prop} {p₁:Po}
  (R:Room A n) (ht:tgtOk tk target=true) (hw:∀ b∈wr,p₁.W.own b≠none) (x:Bh (some env.locals) p₁ p) (b:At Q env ρ σ p) (H:Held Q p env.locals a tk l fp wr m P Md St' i)
  (has:∀ d ρ σ K,as d ρ σ K→WTg Q n env tk target d ρ σ fun ρ σ=>∃ d,K d ρ σ) (hbd:∀ ρ σ K,bd ρ σ K→WB Q n env body ρ σ K)
  (h:forR as bd l ρ σ Φ) (hR:∀ f ρ' σ' q y,At Q env ρ' σ' q→Bh (some env.locals) p₁ q→VFl Q q.W.F f y→Φ y ρ' σ'→Rr (.ok f) q.s):
  codeAny (model Q.prog Q.w) A (.forLoop target (.ref a) body [] env) Rr p.s:=by
 refine codeAny_forLoop_any (ForJ Q env a tk fp wr m P Md St' p₁ as bd Φ) (fun k s' q=>?_) l.length ⟨p,l,i,ρ,σ,rfl,x,b,H,h,rfl⟩
 obtain ⟨q,l,i,ρ',σ',rfl,x',b',H',h',ek⟩:=q
 generalize notedBy (model Q.prog Q.w) A env (fun e s'=>Rr (.error e) s')=E
 refine wpAny_mono (H'.turn (E:=E) (G1:=fun v s=>wpAny (model Q.prog Q.w) A (assign target env v) (fun _ s=>wpAny (model Q.prog Q.w) A (execs body env) (fun f s=>match f with
  | .next=>∃ k',k' < k∧ForJ Q env a tk fp wr m P Md St' p₁ as bd Φ k' s
  | .cont=>∃ k',k' < k∧ForJ Q env a tk fp wr m P Md St' p₁ as bd Φ k' s
  | .brk=>Rr (.ok .next) s
  | .ret v=>Rr (.ok (.ret v)) s) E s) E s) R.hd ht hw x' b' (G0:=fun s=>Rr (.ok .next) s) (fun el q b x _ _=>?_) fun d l' el v q b x H hv _ _=>?_) (fun r s hr=>?_) fun _ _ z=>z
 ·subst el
  exact hR _ _ _ q _ b x .next h'
 ·subst el
  refine (at_target R b hv (has _ _ _ _ h') fun ρ₂ σ₂ q₂ b₂ x₂ h₂=>?_).any
  obtain ⟨_,h₂⟩:=h₂
  refine (hbd _ _ _ h₂ A q₂ _ R b₂ fun ρ₃ σ₃ q₃ f y b₃ x₃ r₃ h₃=>?_).any
  have X:=x.trans (x₂.trans x₃)
  have H₃:=H.keep (x₂.trans x₃) b₃.I
  have lt:l'.length < k:=ek▸Nat.lt_succ_self _
  cases r₃ with
  | next=>exact ⟨_,lt,q₃,l',i+1,ρ₃,σ₃,rfl,X,b₃,H₃,h₃,rfl⟩
  | cont=>exact ⟨_,lt,q₃,l',i+1,ρ₃,σ₃,rfl,X,b₃,H₃,h₃,rfl⟩
  | brk=>exact hR _ _ _ q₃ _ b₃ X .next h₃
  | ret hv=>exact hR _ _ _ q₃ _ b₃ X (.ret hv) h₃
 ·cases r with
  | none=>exact wpAny_execs_nil hr
  | some v=>exact hr
theorem s_for {target iter:Expr} {body:List Stmt} {pos:Pos} {tk:Bool} {Φ:Ks} {as:AV→Rho→St→Kt→Prop} {bd:Rho→St→Ks→Prop} (ht:tgtOk tk target=true) (has:∀ d ρ σ K,as d ρ σ K→WTg Q n env tk target d ρ σ fun ρ σ=>∃ d,K d ρ σ) (hbd:∀ ρ σ K,bd ρ σ K→WB Q n env body ρ σ K)
  (h:WE Q n env iter ρ σ fun o ρ σ=>Stop (IterS Q σ o tk fun l σ=>forR as bd l ρ σ Φ)) (hs:∀ x,foldedSetIterable iter env x=pure x):WS Q n env (.For target iter body [] pos) ρ σ Φ:=fun A p G R a k=>by
 refine wpAny_For (h A p _ R a fun ρ₁ σ₁ p₁ u o b₁ x₁ r₁ h₁=>?_) hs
 obtain ⟨l,σ₂,hi,h₂⟩:=h₁.ok
 refine hi A p₁ u _ R.hd R.units b₁.I r₁ fun q c x₂ I₂=>?_
 obtain ⟨fp,wr,m,P,Md,St,i,H,how⟩:=Held.of (b₁.ext x₂ I₂)
 have F₂:=b₁.F.ext x₂
 exact loop_for (p₁:=q) (p:=⟨q.W.drop c,q.s⟩) R ht (fun b hb=>by rw [how b hb];exact nofun) (Bh.refl _ q).drop ⟨I₂.drop,⟨F₂.ns,Wd.drop_none F₂.own,F₂.F,F₂.base,F₂.len⟩⟩ H has hbd h₂ fun f ρ' σ' q' y b' x' r' h'=>k ρ' σ' q' f y b' ((x₁.trans x₂.wide).trans x') r' h'
end
end
section
open Builtin Builtin.ObjectAttr
set_option tactic.hygienic false
section
variable {Q:Bt} {n:Nat} {A:Around} {env:Env} {σ σ':St} {ρ:Rho} {p:Po} {K:Ks}
theorem b_nil (h:K .next ρ σ):WB Q n env [] ρ σ K:=fun A p G R a k=>wpAny_execs_nil (k ρ σ p _ _ a (Bh.refl _ _) .next h)
theorem b_cons {st:Stmt} {r:List Stmt} (h:WS Q n env st ρ σ fun f ρ σ=>match f with
  | .next=>WB Q n env r ρ σ K
  | f=>K f ρ σ):WB Q n env (st::r) ρ σ K:=fun A p G R a k=>wpAny_execs_cons (h A p _ R a fun ρ₁ σ₁ p₁ f y o₁ x₁ r₁ h₁=>by
 cases r₁ with
 | next=>exact br h₁ R o₁ x₁ k
 | brk=>exact k _ _ p₁ _ _ o₁ x₁ .brk h₁
 | cont=>exact k _ _ p₁ _ _ o₁ x₁ .cont h₁
 | ret hv=>exact k _ _ p₁ _ _ o₁ x₁ (.ret hv) h₁)
theorem s_ret {e:Expr} {pos:Pos} (h:WE Q n env e ρ σ fun d ρ σ=>K (.ret d) ρ σ):WS Q n env (.Return (some e) pos) ρ σ K:=fun A p G R a k=>wpAny_Return_some (h A p _ R a fun ρ₁ σ₁ p₁ v d o₁ x₁ r₁ h₁=>k ρ₁ σ₁ p₁ _ _ o₁ x₁ (.ret r₁) h₁)
theorem s_rtn {pos:Pos} (h:K (.ret .none) ρ σ):WS Q n env (.Return none pos) ρ σ K:=fun A p G R a k=>wpAny_Return_none (k ρ σ p _ _ a (Bh.refl _ _) (.ret .none) h)
theorem s_pas {pos:Pos} (h:K .next ρ σ):WS Q n env (.Pass pos) ρ σ K:=fun A p G R a k=>wpAny_Pass (k ρ σ p _ _ a (Bh.refl _ _) .next h)
theorem s_brk {pos:Pos} (h:K .brk ρ σ):WS Q n env (.Break pos) ρ σ K:=fun A p G R a k=>wpAny_bind (wpAny_standAt (wpAny_pure (a:=Flow.brk) (k ρ σ p _ _ a (Bh.refl _ _) .brk h)))
theorem s_iff {t:Expr} {b o:List Stmt} {pos:Pos} (h:WT Q n env t ρ σ fun c ρ σ=>Br c (WB Q n env b ρ σ K) (WB Q n env o ρ σ K)):WS Q n env (.If t b o pos) ρ σ K:=fun A p G R a k=>wpAny_If (h A p _ R a fun ρ₁ σ₁ p₁ c c' o₁ x₁ e h₁=>by
 subst e
 cases c with
 | true=>exact br h₁ R o₁ x₁ k
 | false=>exact br h₁ R o₁ x₁ k)
theorem drop_ref {e:Expr} {pos:Pos} {s:Shared} {v:Value} {G:Flow→Shared→Prop} (h:G .next s):WP Q A (dropValue e pos v) G s:=by
 unfold dropValue
 split
 ·exact wpAny_pure h
 ·exact wpAny_bind (wpAny_standAt (wpAny_bind (wpAny_runValue (codeAny_builtin entry_let_go (show wpAny _ _ (ret .none) _ _ s from wpAny_pure (wpAny_pure h))))))
 ·exact wpAny_pure h
theorem s_exs {sc:Scope} {cs:List (Str × Addr)} (E:EnvOk env sc cs) {e:Expr} {pos:Pos} (hn:∀ tg ln,swapsWith e tg ln env=pure false) (h:WE Q n env e ρ σ fun _ ρ σ=>K .next ρ σ):WS Q n env (.Expr e pos) ρ σ K:=fun A p G R a k=>by
 have hi:interactive env=false:=by unfold interactive;rw [E.scp,E.kind];rfl
 have e0:exec (.Expr e pos) env=(do
   standAt pos
   if interactive env then printExpr (eval e env)
   else if ← swapsWith e none pos.line env then do evalThenUse e env fun _=>point;pure .next
   else do dropValue e pos (← eval e env)):=rfl
 show WP Q A (exec (.Expr e pos) env) G p.s
 rw [e0,hi,hn]
 refine wpAny_bind (wpAny_standAt ?_)
 simp only [Bool.false_eq_true,if_false]
 refine wpAny_bind (wpAny_pure ?_)
 simp only [Bool.false_eq_true,if_false]
 exact wpAny_bind (h A p _ R a fun ρ₁ σ₁ p₁ v d o₁ x₁ r₁ h₁=>drop_ref (k ρ₁ σ₁ p₁ _ _ o₁ x₁ .next h₁))
theorem s_asg {t value:Expr} {pos:Pos} (hn:∀ tg ln,swapsWith value tg ln env=pure false) (ea:assignEach [t] env=[(false,assign t env)]) (es:swappedStores [t] value env=pure none) (h:WE Q n env value ρ σ fun d ρ σ=>WA Q n env t d ρ σ fun ρ σ=>K .next ρ σ):WS Q n env (.Assign [t] value pos) ρ σ K:=fun A p G R a k=>by
 have e:exec (.Assign [t] value pos) env=(do
   standAt pos
   if ← swapsWith value (some t) pos.line env then do
    evalThenUse value env fun v=>assignAll v ((assignEach [t] env).map (·.2))
    pure .next
   else do
    let v ← eval value env
    assignStores env v (← swappedStores [t] value env) ((assignEach [t] env).map (·.2))):=rfl
 show WP Q A (exec (.Assign [t] value pos) env) G p.s
 rw [e,hn]
 refine wpAny_bind (wpAny_standAt (wpAny_bind (wpAny_pure ?_)))
 simp only [Bool.false_eq_true,if_false]
 refine wpAny_bind (h A p _ R a fun ρ₁ σ₁ p₁ v d o₁ x₁ r₁ h₁=>?_)
 rw [es,ea]
 refine wpAny_bind (wpAny_pure ?_)
 show WP Q A (assign t env v>>=fun _=>pure Flow.next) G p₁.s
 exact wpAny_bind (h₁ A p₁ v _ R o₁ r₁ fun ρ₂ σ₂ p₂ o₂ x₂ h₂=>wpAny_pure (k ρ₂ σ₂ p₂ _ _ o₂ (x₁.trans x₂) .next h₂))
theorem s_asT {es:List Expr} {c:Nat} {tpos:Pos} {value:Expr} {pos:Pos} (hn:∀ tg ln,swapsWith value tg ln env=pure false) (hw:swappedStores [.Tuple es c tpos] value env=pure none) (h:WE Q n env value ρ σ fun d ρ σ=>WA Q n env (.Tuple es c tpos) d ρ σ fun ρ σ=>K .next ρ σ):WS Q n env (.Assign [.Tuple es c tpos] value pos) ρ σ K:=fun A p G R a k=>
 Assign_Tuple (h A p _ R a fun ρ₁ σ₁ p₁ v d o₁ x₁ r₁ h₁=>h₁ A p₁ v _ R o₁ r₁ fun ρ₂ σ₂ p₂ o₂ x₂ h₂=>k ρ₂ σ₂ p₂ _ _ o₂ (x₁.trans x₂) .next h₂) (show swapsWith value (some (.Tuple es c tpos)) pos.line env=pure false from hn _ _) hw
theorem vl_rev {F:FH} {vs:List Value} {ds:List AV} (h:VL Q F vs ds):VL Q F vs.reverse ds.reverse:=by
 induction ds generalizing vs with
 | nil=>cases vl_0 h;exact .nil
 | cons d ds ih=>
  obtain ⟨v,vs,rfl,hv,r⟩:=vl_c h
  rw [List.reverse_cons,List.reverse_cons]
  exact vl_app (.cons hv .nil) (ih r)
theorem s_tri {body:List Stmt} {h₀:ExceptHandler} {hs:List ExceptHandler} {pos:Pos} (h:WB Q n env body ρ σ K):WS Q n env (.Try body (h₀::hs) [] [] pos) ρ σ K:=fun A p G R a k=>
 wpAny_Try_except (wpAny_mono (h A p (fun f s=>G f s) R a k) (fun f s q=>by
  cases f with
  | next=>exact wpAny_execs_nil q
  | _=>exact q) fun _ _ z=>z.elim)
theorem s_whl {test:Expr} {body:List Stmt} {pos:Pos} {ts:Rho→St→Kt→Prop} {bd:Rho→St→Ks→Prop} (hts:∀ ρ σ K,ts ρ σ K→WT Q n env test ρ σ fun c ρ σ=>K (.bool c) ρ σ) (hbd:∀ ρ σ K,bd ρ σ K→WB Q n env body ρ σ K)
  (h:Whl ts bd ρ σ K):WS Q n env (.While test body [] pos) ρ σ K:=fun A p G R a k=>by
 obtain ⟨J,m,h0,step⟩:=h
 refine wpAny_While (codeAny_whileLoop (fun k' s=>∃ q ρ' σ',s=q.s∧Bh (some env.locals) p q∧At Q env ρ' σ' q∧J k' ρ' σ') (fun k' s q=>?_) m ⟨p,ρ,σ,rfl,Bh.refl _ _,a,h0⟩)
 obtain ⟨q,ρ',σ',rfl,x',a',hJ⟩:=q
 refine (hts _ _ _ (step k' ρ' σ' hJ) A q _ R a' fun ρ₁ σ₁ p₁ b c o₁ x₁ e h₁=>?_).any
 subst e
 have h₁:=show Br b _ _ from h₁
 cases b with
 | false=>exact wpAny_execs_nil (k ρ₁ σ₁ p₁ _ _ o₁ (x'.trans x₁) .next h₁)
 | true=>
  refine (hbd _ _ _ h₁ A p₁ _ R o₁ fun ρ₂ σ₂ p₂ f y o₂ x₂ r₂ h₂=>?_).any
  have X:=x'.trans (x₁.trans x₂)
  cases r₂ with
  | next=>obtain ⟨q,hq,hJ⟩:=h₂;exact ⟨q,hq,p₂,ρ₂,σ₂,rfl,X,o₂,hJ⟩
  | cont=>obtain ⟨q,hq,hJ⟩:=h₂;exact ⟨q,hq,p₂,ρ₂,σ₂,rfl,X,o₂,hJ⟩
  | brk=>exact k _ _ p₂ _ _ o₂ X .next h₂
  | ret hv=>exact k _ _ p₂ _ _ o₂ X (.ret hv) h₂
end
section
variable {C:Cn} {sc:Scope} {A:Around} {σ:St} {K:Ks} {G:Unit→Shared→Prop}
theorem at_names (O:Cok C sc) {is:List Nat} {ds:List AV} {vs:List Value} {ρ:Rho} {p:Po} (hl:is.length=ds.length) (hi:∀ i∈is,i < ρ.length) (a:At C.Q C.env ρ σ p) (hv:VL C.Q p.W.F vs ds)
  (k:∀ q,At C.Q C.env (setAll is ds ρ) σ q→Bh (some C.env.locals) p q→G () q.s):WP C.Q A (assignInOrder (is.map fun i=>bindName C.env (C.ns.getD i "")) vs) G p.s:=by
 induction is generalizing ds vs ρ p with
 | nil=>cases ds with
  | nil=>cases vl_0 hv;exact wpAny_pure (k p a (Bh.refl _ _))
  | cons _ _=>first|exact ffE hl|exact tfE hl|exact noE hl|cases hl
 | cons i is ih=>cases ds with
  | nil=>first|exact ffE hl|exact tfE hl|exact noE hl|cases hl
  | cons d ds=>
   obtain ⟨v,vs,rfl,h1,r⟩:=vl_c hv
   obtain ⟨x1,x2⟩:=ns_at O a (hi i (.head _))
   show WP C.Q A (holding vs (bindName C.env (C.ns.getD i "") v)>>=fun _=>assignInOrder (is.map fun i=>bindName C.env (C.ns.getD i "")) vs) G p.s
   exact wpAny_bind (wpAny_holding (wpAny_bindName (store_local O.E (O.ns.symm▸O.nd) x1 (O.loc _ x2).1 a h1 fun q a' x=>ih (Nat.succ.inj hl) (fun j m=>by rw [List.length_set];exact hi j (.tail _ m)) a' (x.VL r) fun q' a'' x'=>k q' a'' (x.trans x'))))
theorem s_asw (O:Cok C sc) {es:List Expr} {c:Nat} {tpos:Pos} {value:Expr} {pos:Pos} {is:List Nat} {ρ:Rho} (hn:∀ tg ln,swapsWith value tg ln C.env=pure false) (hw:swappedStores [.Tuple es c tpos] value C.env=pure (some (is.map fun i=>C.ns.getD i "")))
  (h:WE C.Q C.n C.env value ρ σ fun d ρ σ=>asT d fun l=>bif Nat.beq l.length is.length&&is.all (fun i=>Nat.blt i ρ.length) then K .next (setAll is.reverse l.reverse ρ) σ else False):WS C.Q C.n C.env (.Assign [.Tuple es c tpos] value pos) ρ σ K:=fun A p G R a k=>by
 refine Assign_Tuple_swapped (h A p _ R a fun ρ₁ σ₁ p₁ v d o₁ x₁ r₁ h₁=>?_) (show swapsWith value (some (.Tuple es c tpos)) pos.line C.env=pure false from hn _ _) hw
 obtain ⟨l,rfl,h₁⟩:=asT_tup h₁
 obtain ⟨e,h₁⟩:=bif_true h₁
 obtain ⟨e1,e2⟩:=Bool.and_eq_true_iff.mp e
 obtain ⟨b,vs,m,rfl,e',hl⟩:=v_tup r₁
 have ht:=o₁.I.frz _ _ e'
 have e1:=Nat.eq_of_beq_eq_true e1
 rw [List.length_map,← e1,← vl_size hl]
 refine PyProof.Rows.unpackItems_tuple R.hd ⟨_,ht,rfl,_,rfl⟩ fun h' hk=>?_
 obtain ⟨a',x⟩:=o₁.keeps fun b o e=>hk b o (Nat.ne_of_lt (Heap.lt_size e)) e
 rw [← List.map_reverse,List.map_map]
 exact at_names O (is:=is.reverse) (by rw [List.length_reverse,List.length_reverse,e1]) (fun i m=>Nat.le_of_ble_eq_true (List.all_eq_true.mp e2 i (List.mem_reverse.mp m))) a' (vl_rev hl) fun q a'' x'=>k _ _ q _ _ a'' (x₁.trans (x.wide.trans x')) .next h₁
end
end
section
open Builtin Builtin.ObjectAttr
set_option tactic.hygienic false
section
variable {C:Cn} {sc:Scope} (O:Cok C sc) {e:Ih} (I:∀ m t ρ σ K,e m t ρ σ K→Says C m t ρ σ K)
theorem lc_no {t:T} (h:lcT t=false) (tg:Option Expr) (ln:Nat):swapsWith (C.E t) tg ln C.env=pure false:=ok_swap (ok_hd ..) (lc_E h) tg ln
include I
theorem aS {t:T} {d:AV} {ρ:Rho} {σ:St} {Φ:Rho→St→Prop} (h:e (.a d) t ρ σ fun _ ρ σ=>Φ ρ σ):WA C.Q C.n C.env (C.E t) d ρ σ Φ:=(show WA C.Q C.n C.env (C.E t) d ρ σ _ from I (.a d) t ρ σ _ h).mono fun _ _ h=>h.elim fun _ h=>h
theorem tgR_ok {t:T} {tk:Bool} (ht:tkOf t=some tk) (d:AV) (ρ:Rho) (σ:St) (K:Kt) (h:tgR C e t d ρ σ K):WTg C.Q C.n C.env tk (C.E t) d ρ σ fun ρ σ=>∃ d,K d ρ σ:=by
 cases t with
 | loc i p=>cases ht;exact I (.a d) _ ρ σ K h
 | tup es k p=>cases ht;exact asT_mono h fun l h=>bif_mono h fun h=>⟨den_ok C.ns C.cn es,I (.s l) es ρ σ K h⟩
 | _=>first|exact ffE ht|exact tfE ht|exact noE ht|cases ht
theorem tk_ok {t:T} {tk:Bool} (ht:tkOf t=some tk):tgtOk tk (C.E t)=true:=by
 cases t with
 | loc i p=>cases ht;rfl
 | tup es k p=>cases ht;rfl
 | _=>first|exact ffE ht|exact tfE ht|exact noE ht|cases ht
include O
theorem step_s {ih:Is} (J:∀ t ρ σ K,ih true t ρ σ K→WB C.Q C.n C.env (C.B t) ρ σ K) {t:T} {ρ:Rho} {σ:St} {K:Ks} (h:stepS C e ih t ρ σ K):WS C.Q C.n C.env (C.S t) ρ σ K:=by
 cases t with
 | asg t v p=>
  obtain ⟨e1,h⟩:=bif_true h
  obtain ⟨e2,h⟩:=bif_false h
  exact s_asg (lc_no e2) (by cases t<;>first|rfl|cases e1) (by cases t<;>first|rfl|exact ffE e1|exact tfE e1|exact noE e1|cases e1) ((Ee I h).mono fun d ρ σ h=>aS I h)
 | asT sw es k tp v p=>
  obtain ⟨e2,h⟩:=bif_false h
  cases sw with
  | true=>
   obtain ⟨is,e3,h⟩:=opt_some (show opt (locs es) _ from h)
   exact s_asw O (lc_no e2) h.ok.1 (Ee I h.ok.2)
  | false=>
   have h:=Stop.ok (show Stop _ from h)
   exact s_asT (lc_no e2) h.1 ((Ee I h.2).mono fun d ρ σ h=>aS (t:=.tup es k tp) I h)
 | exs v p=>
  obtain ⟨e2,h⟩:=bif_false h
  exact s_exs O.E (lc_no e2) (Ee I h)
 | ret v p=>exact s_ret (Ee I h)
 | rtn p=>exact s_rtn h
 | iff t b o p=>exact s_iff ((Tt I h).mono fun c ρ σ h=>Br.mono h (J _ _ _ _) (J _ _ _ _))
 | whl t b p=>exact s_whl (fun ρ σ K h=>I .t t ρ σ K h) (fun ρ σ K h=>J _ _ _ _ h) h.ok
 | frr t i b p=>
  obtain ⟨tk,e1,h⟩:=opt_some h
  exact s_for (tk_ok I e1) (tgR_ok I e1) (fun ρ σ K h=>J _ _ _ _ h) (Ee I h) (ok_fold (ok_hd ..))
 | pas p=>exact s_pas h
 | brk p=>exact s_brk h
 | tri b h' hs p=>exact s_tri (J _ _ _ _ h)
 | rws s=>exact h.ok
 | _=>exact h.elim
end
section
variable {C:Cn} {sc:Scope}
theorem runS_ok (O:Cok C sc) (f:Nat):∀ b t ρ σ K,runS C f b t ρ σ K→(bif b then WB C.Q C.n C.env (C.B t) ρ σ K else WS C.Q C.n C.env (C.S t) ρ σ K):=by
 induction f with
 | zero=>exact fun _ _ _ _ _ h=>h.elim
 | succ f ih=>
  intro b t ρ σ K h
  cases b with
  | false=>exact step_s O (runE_ok O f) (fun t ρ σ K h=>ih true t ρ σ K h) h
  | true=>
   cases t with
   | nil=>exact b_nil h
   | cons s r=>
    refine b_cons ((show WS C.Q C.n C.env (C.S s) ρ σ _ from ih false s ρ σ _ h).mono fun fl ρ σ h=>?_)
    cases fl with
    | next=>exact ih true r ρ σ K h
    | _=>exact h
   | _=>exact h.elim
end
end
section
open Builtin Builtin.ObjectAttr
set_option tactic.hygienic false
inductive TakeC:St→Addr→Cell→St→Prop
 | here {a:Addr} {c:Cell} {r:St}:TakeC ((a,c)::r) a c r
 | there {a:Addr} {c:Cell} {p:Addr × Cell} {r r':St} (h:TakeC r a c r'):TakeC (p::r) a c (p::r')
theorem TakeC.perm {σ σ':St} {a:Addr} {c:Cell} (h:TakeC σ a c σ'):σ.Perm ((a,c)::σ'):=by
 induction h with
 | here=>exact .refl _
 | there _ ih=>exact (ih.cons _).trans (.swap _ _ _)
inductive Sel:St→St→Prop
 | refl {σ:St}:Sel σ σ
 | skip {p:Addr × Cell} {σ σ':St} (h:Sel σ σ'):Sel (p::σ) σ'
 | take {σ σ₁ σ':St} {a:Addr} {c:Cell} (t:TakeC σ a c σ₁) (h:Sel σ₁ σ'):Sel σ ((a,c)::σ')
theorem Sel.ok {σ σ':St} (h:Sel σ σ'):(∀ p∈σ',p∈σ)∧((σ.map (·.1)).Nodup→(σ'.map (·.1)).Nodup):=by
 induction h with
 | refl=>exact ⟨fun _ h=>h,fun h=>h⟩
 | skip _ ih=>exact ⟨fun p hp=>.tail _ (ih.1 p hp),fun nd=>ih.2 (List.nodup_cons.mp nd).2⟩
 | take t _ ih=>
  refine ⟨fun p hp=>?_,fun nd=>?_⟩
  ·rcases List.mem_cons.mp hp with rfl|hp
   ·exact t.perm.mem_iff.mpr (.head _)
   ·exact t.perm.mem_iff.mpr (.tail _ (ih.1 p hp))
  ·have nd:=List.nodup_cons.mp ((t.perm.map _).nodup_iff.mp nd)
   refine List.nodup_cons.mpr ⟨fun q=>nd.1 ?_,ih.2 nd.2⟩
   obtain ⟨p,hp,e⟩:=List.mem_map.mp q
   exact List.mem_map.mpr ⟨p,ih.1 p hp,e⟩
inductive thn (Φ:AV→St→Prop) (d:AV) (σ:St):Prop
 | mk (σ':St) (s:Sel σ σ') (h:Φ d σ')
section
variable {Q:Bt} {n:Nat} {A:Around} {env:Env} {σ σ':St} {ρ:Rho} {p:Po} {W:Wd} {h:Heap}
theorem Inv.thin (I:Inv Q W σ h) (s:Sel σ σ'):Inv Q W σ' h:=⟨I.frz,I.frzO,I.live,fun p hp=>I.cells p (s.ok.1 p hp),s.ok.2 I.nd,I.base⟩
theorem WC.thin {f:Value} {args:List AV} {Φ:AV→St→Prop} (h:WC Q n f args σ (thn Φ)):WC Q n f args σ Φ:=fun A p vs G r I hv k=>h A p vs G r I hv fun σ' q v d I' x hd φ=>let ⟨σ'',z,w⟩:=φ;k σ'' q v d (I'.thin z) x hd w
theorem WC.sel {f:Value} {args:List AV} {Φ:AV→St→Prop} (hs:Sel σ σ') (h:WC Q n f args σ' Φ):WC Q n f args σ Φ:=fun A p vs G r I=>h A p vs G r (I.thin hs)
theorem WG.sel {j:Nat} {args:List AV} {Φ:AV→St→Prop} (hs:Sel σ σ') (h:WG Q n j args σ' Φ):WG Q n j args σ Φ:=fun a ha=>(h a ha).sel hs
theorem WM.sel {k j:Nat} {args:List AV} {Φ:AV→St→Prop} (hs:Sel σ σ') (h:WM Q n k j args σ' Φ):WM Q n k j args σ Φ:=fun a ha=>(h a ha).sel hs
noncomputable def BindP (P:Arguments) (pn:List Str):Prop:=∀ (fd:FuncData) (vs:List Value),fd.params=P→fd.defaults=.none→vs.length=pn.length→bindArgs fd ⟨vs,[]⟩=pure (pn.zip vs)
theorem fd_eq {fd:FuncData} {P:Arguments} (h:fd.params=P) (h':fd.defaults=.none):fd={ fd with params:=P,defaults:=.none }:=by subst h;rw [← h']
theorem len_s {α:Type} {l:List α} {k:Nat} (h:l.length=k+1):∃ u us,l=u::us∧us.length=k:=by
 cases l with
 | nil=>first|exact ffE h|exact tfE h|exact noE h|cases h
 | cons u us=>exact ⟨u,us,rfl,Nat.succ.inj h⟩
theorem len_0 {α:Type} {l:List α} (h:l.length=0):l=[]:=List.eq_nil_of_length_eq_zero h
noncomputable def AllN {α:Type}:Nat→(List α→Prop)→Prop
 | 0,P=>P []
 | n+1,P=>∀ v,AllN n fun vs=>P (v::vs)
theorem allN {α:Type} (n:Nat):∀ {P:List α→Prop},AllN n P→∀ {vs:List α},vs.length=n→P vs:=by
 induction n with
 | zero=>intro P h vs e;rw [len_0 e];exact h
 | succ n ih=>intro P h vs e;obtain ⟨v,us,rfl,e'⟩:=len_s e;exact ih (P:=fun vs=>P (v::vs)) (h v) e'
theorem len2 {α:Type} {l:List α} (h:l.length=2):∃ a b,l=[a,b]:=allN 2 (P:=fun l=>∃ a b,l=[a,b]) (fun a b=>⟨a,b,rfl⟩) h
theorem len3 {α:Type} {l:List α} (h:l.length=3):∃ a b c,l=[a,b,c]:=allN 3 (P:=fun l=>∃ a b c,l=[a,b,c]) (fun a b c=>⟨a,b,c,rfl⟩) h
theorem bindN {P:Arguments} {pn:List Str} (h:∀ fd:FuncData,AllN pn.length fun vs=>bindArgs { fd with params:=P,defaults:=.none } ⟨vs,[]⟩=pure (pn.zip vs)):BindP P pn:=fun fd vs e e' l0=>by rw [fd_eq e e'];exact allN _ (h fd) l0
theorem bind0 {P:Arguments} (h:∀ (fd:FuncData),bindArgs { fd with params:=P,defaults:=.none } ⟨[],[]⟩=pure []):BindP P []:=bindN h
theorem bind1 {P:Arguments} {x:Str} (h:∀ (fd:FuncData) u,bindArgs { fd with params:=P,defaults:=.none } ⟨[u],[]⟩=pure [(x,u)]):BindP P [x]:=bindN h
theorem bind2 {P:Arguments} {x y:Str} (h:∀ (fd:FuncData) u v,bindArgs { fd with params:=P,defaults:=.none } ⟨[u,v],[]⟩=pure [(x,u),(y,v)]):BindP P [x,y]:=bindN h
theorem bind3 {P:Arguments} {x y z:Str} (h:∀ (fd:FuncData) u v w,bindArgs { fd with params:=P,defaults:=.none } ⟨[u,v,w],[]⟩=pure [(x,u),(y,v),(z,w)]):BindP P [x,y,z]:=bindN h
theorem bind4 {P:Arguments} {x y z x':Str} (h:∀ (fd:FuncData) u v w u',bindArgs { fd with params:=P,defaults:=.none } ⟨[u,v,w,u'],[]⟩=pure [(x,u),(y,v),(z,w),(x',u')]):BindP P [x,y,z,x']:=bindN h
theorem bind5 {P:Arguments} {x y z x' y':Str} (h:∀ (fd:FuncData) u v w u' v',bindArgs { fd with params:=P,defaults:=.none } ⟨[u,v,w,u',v'],[]⟩=pure [(x,u),(y,v),(z,w),(x',u'),(y',v')]):BindP P [x,y,z,x',y']:=bindN h
theorem lookup_nd {x:Str} {v:Value} {l:List (Str × Value)} (nd:(l.map (·.1)).Nodup) (h:(x,v)∈l):l.lookup x=some v:=by
 induction l with
 | nil=>first|exact ffE h|exact tfE h|exact noE h|cases h
 | cons p l ih=>
  rw [List.map_cons,List.nodup_cons] at nd
  rw [List.lookup_cons]
  rcases List.mem_cons.mp h with rfl|h
  ·rw [beq_self_eq_true]
  ·rw [beq_eq_false_iff_ne.mpr (fun e:x=p.1=>nd.1 (e▸(List.mem_map_of_mem h:(x,v).1∈l.map (·.1))))]
   exact ih nd.2 h
theorem zip_keys {α:Type} {ns:List Str} {vs:List α} (h:vs.length=ns.length):(ns.zip vs).map (·.1)=ns:=by
 have:(ns.zip vs).map Prod.fst=ns:=List.map_fst_zip (Nat.le_of_eq h.symm)
 exact this
theorem zip_mem {ns:List Str} {vs:List Value} {i:Nat} {x:Str} {v:Value} (h:ns[i]?=some x) (h':vs[i]?=some v):(x,v)∈ns.zip vs:=List.mem_of_getElem? (i:=i) (by rw [List.getElem?_zip_eq_some];exact ⟨h,h'⟩)
noncomputable def inO (a:Addr) (Φ:AV→St→Prop) (d:AV) (σ:St):Prop:=d=.none∧Φ (.ref a) σ
noncomputable def retO (Φ:AV→St→Prop):Ks:=fun f _ σ=>match f with
 | .next=>Φ .none σ
 | .ret d=>Φ d σ
 | _=>False
noncomputable def fr0 (ns:List Str) (args:List AV):Rho:=args.map some++List.replicate (ns.length - args.length) none
noncomputable def fOk (sc:Scope) (ns cn:List Str) (gs:List Nat):Bool:=(nsOf sc==ns)&&ns.all (fun x=>sc.names.lookup x==some .local&&!(x==("__debug__":Str)))&&decide ns.Nodup &&
 cn.all (fun x=>sc.names.lookup x==some .cell&&!(x==("__debug__":Str))&&!(x==("__classdict__":Str)))&&decide cn.Nodup&&gs.all (fun j=>sc.names.lookup (gN j)==some .globalImplicit&&!(gN j==("__debug__":Str)))&&!sc.isCoroutine&&!sc.isGenerator&&sc.kind==.function
structure FOk (sc:Scope) (ns cn:List Str) (gs:List Nat):Prop where
 eq:nsOf sc=ns
 loc:∀ x∈ns,sc.names.lookup x=some .local∧(x==("__debug__":Str))=false
 nd:ns.Nodup
 cel:∀ x∈cn,sc.names.lookup x=some .cell∧(x==("__debug__":Str))=false∧(x==("__classdict__":Str))=false
 cnd:cn.Nodup
 gl:∀ j∈gs,sc.names.lookup (gN j)=some .globalImplicit∧(gN j==("__debug__":Str))=false
 co:sc.isCoroutine=false
 ge:sc.isGenerator=false
 kd:sc.kind=.function
theorem fOk_ok {sc:Scope} {ns cn:List Str} {gs:List Nat} (h:fOk sc ns cn gs=true):FOk sc ns cn gs:=by
 simp only [fOk,Bool.and_eq_true,beq_iff_eq,List.all_eq_true,decide_eq_true_eq,Bool.not_eq_true'] at h
 obtain ⟨⟨⟨⟨⟨⟨⟨⟨h1,h2⟩,h3⟩,h4⟩,h5⟩,h6⟩,h7⟩,h8⟩,h9⟩:=h
 exact ⟨h1,h2,h3,fun x hx=>⟨(h4 x hx).1.1,(h4 x hx).1.2,(h4 x hx).2⟩,h5,h6,h7,h8,h9⟩
noncomputable def Fits (Q:Bt) (σ:St) (f:Addr) (args:List AV) (body:FuncBody) (sc:Scope) (cl:List (Str × Addr)) (pn:List Str) (args':List AV):Prop:=
 ∀ (p:Po) (vs:List Value),Inv Q p.W σ p.s.heap→VL Q p.W.F vs args→∃ o fd vs',p.s.heap.get? f=some o∧o.data=.func fd∧p.s.heap.CodeRec fd.code fd.qualname∧fd.body=body∧fd.scope=sc∧fd.globals=mainGlobals∧fd.builtins=builtinsNs∧fd.closure=cl∧BindsTo p.s fd ⟨vs,[]⟩ (pn.zip vs')∧VL Q p.W.F vs' args'
theorem FnIs.fits {f:Addr} {P:Arguments} {body:List Stmt} {sc:Scope} {cl:List (Str × Addr)} {pn:List Str} {args:List AV} (hf:∀ (W:Wd) (h:Heap),Inv Q W σ h→FnIs h f P body sc cl) (hb:BindP P pn) (hl:args.length=pn.length):Fits Q σ f args (.stmts body) sc cl pn args:=fun p vs I hv=>
 let ⟨o,fd,g,hd,hcd,e1,e2,e3,e4,e5,e6,e7⟩:=hf _ _ I
 ⟨o,fd,vs,g,hd,hcd,e2,e3,e4,e5,e6,.of_eq (hb fd vs e1 e7 ((vl_len hv).trans hl)),hv⟩
theorem fr0_ok {fd:FuncData} {f:Addr} {sc:Scope} {ns pn rs:List Str} {gs:List Nat} {vs:List Value} {args:List AV} {h₀:Heap} (I:Inv Q p.W σ p.s.heap) (e3:fd.scope=sc) (ho:FOk sc ns [] gs) (en:ns=pn++rs) (hl:args.length=pn.length) (hv:VL Q p.W.F vs args)
  (hn:h₀.Ns p.s.heap.objs.size fun x=>(pn.zip vs).reverse.lookup x) (hk:∀ b o,p.s.heap.get? b=some o→h₀.get? b=some o):At Q (callEnv fd p.s.heap.objs.size f) (fr0 ns args) σ ⟨p.W,{ p.s with heap:=h₀,toks:=p.s.toks+(pn.zip vs).length }⟩:=by
 have hlen:vs.length=pn.length:=(vl_len hv).trans hl
 have hbL:Q.hB.get? p.s.heap.objs.size=none:=by
  cases z:Q.hB.get? p.s.heap.objs.size with
  | none=>rfl
  | some o=>exact absurd (Heap.lt_size (I.keepB _ _ z)) (Nat.lt_irrefl _)
 refine ⟨I.keeps hk,⟨_,hn,fun i x d h1 h2=>?_⟩,I.own_none,I.F_none,hbL,?_⟩
 ·rw [show (callEnv fd p.s.heap.objs.size f).scope=sc from e3,ho.eq] at h1
  by_cases hi:i < args.length
  ·rw [fr0,List.getElem?_append_left (by rw [List.length_map];exact hi),List.getElem?_map] at h2
   obtain ⟨d',hd',e⟩:=Option.map_eq_some_iff.mp h2
   cases e
   obtain ⟨v,hv',hvd⟩:=vl_get hv hd'
   rw [en,List.getElem?_append_left (hl▸hi)] at h1
   have nd:(((pn.zip vs).reverse).map (·.1)).Nodup:=by rw [List.map_reverse,zip_keys hlen];exact (List.reverse_perm pn).nodup_iff.mpr (List.nodup_append.mp (en▸ho.nd)).1
   exact ⟨v,lookup_nd nd (List.mem_reverse.mpr (zip_mem h1 hv')),hvd⟩
  ·rw [fr0,List.getElem?_append_right (by rw [List.length_map];exact Nat.le_of_not_lt hi),List.getElem?_replicate] at h2
   split at h2<;>cases h2
 ·rw [show (callEnv fd p.s.heap.objs.size f).scope=sc from e3,ho.eq,fr0,List.length_append,List.length_map,List.length_replicate,Nat.add_sub_cancel' (by rw [en,List.length_append,hl];exact Nat.le_add_right _ _)]
theorem Bh.leave {q q':Po} (x:Bh (some p.s.heap.objs.size) q q') (hW:q.W=p.W) (hk:∀ b o,p.s.heap.get? b=some o→q.s.heap.get? b=some o) (hg:q.s.gens=p.s.gens) (hd:q.s.drawn=p.s.drawn) (hs:q.s.os=p.s.os):Bh none p q':=by
 refine ⟨hW▸x.F,fun b o e g=>?_,x.gens.trans hg,x.drawn.trans hd,x.os.trans hs⟩
 obtain ⟨u1,u2,u3,u4⟩:=x.un b o (by rw [hW];exact e) (hk b o g)
 exact ⟨u1,fun z=>u2 (by rw [hW];exact z),u3,fun _=>u4 fun z=>absurd (Heap.lt_size g) (Option.some.inj z▸Nat.lt_irrefl _)⟩
theorem wd_def (X:Cx Q) {f:Addr} {body:List Stmt} {sc:Scope} {cl:List (Str × Addr)} {ns pn rs:List Str} {gs:List Nat} {args args':List AV} {Φ:AV→St→Prop} (hf:Fits Q σ f args (.stmts body) sc cl pn args') (ho:FOk sc ns [] gs) (en:ns=pn++rs) (hc:∀ x∈sc.names,x.2≠.cell) (hl:args'.length=pn.length)
  (h:∀ env,EnvOk env sc cl→WB Q n env body (fr0 ns args') σ (retO Φ)):WD Q (n+1) (.ref f) args σ Φ:=fun A p vs G R I hv k=>by
 obtain ⟨o,fd,vs',g,hd,hcd,e2,e3,e4,e5,e6,hb,hv⟩:=hf p vs I hv
 have hE:EnvOk (callEnv fd p.s.heap.objs.size f) sc cl:=⟨e3,e4,e5,ho.kd,e6⟩
 have hnl:∀ x∈pn,x∈ns:=fun x m=>en▸List.mem_append_left _ m
 refine codeAny_call_def (fd:=fd) (body:=body) (binds:=pn.zip vs') R.room g hd (X.lim.keeps I.keepB) hcd e2 hb
  (by rw [e3];exact hc) (fun x hx=>by rw [e3];exact (ho.loc x.1 (hnl _ (by obtain ⟨a,b⟩:=x;exact (List.of_mem_zip hx).1))).1) (fun h₀ hn hk=>?_) (by rw [e3];exact ho.co) (by rw [e3];exact ho.ge) (by rw [e3];exact ho.kd)
 refine (h _ hE (A.deeper (callEnv fd p.s.heap.objs.size f)) _ _ (R.deeper _) (fr0_ok (f:=f) I e3 ho en hl hv hn hk) fun ρ' σ' q' fl y a x r hΦ=>?_).any
 have x₁:Bh none p q':=x.leave rfl hk rfl rfl rfl
 cases r with
 | next=>exact k σ' q' _ _ a.I x₁ .none hΦ
 | ret hv=>exact k σ' q' _ _ a.I x₁ hv hΦ
 | brk=>exact hΦ.elim
 | cont=>exact hΦ.elim
noncomputable def sA (l:List Stmt) (i:Nat):Stmt:=l.getD i (.Pass ⟨0,0,0,0⟩)
noncomputable def kB (s:Stmt) (i:Nat):List Stmt:=match s with
 | .If _ b o _=>if i=0 then b else o
 | .For _ _ b _ _=>b
 | .While _ b _ _=>b
 | .Try b _ _ _ _=>b
 | _=>[]
noncomputable def kS (s:Stmt) (i:Nat):Expr:=match s with
 | .Assign ts v _=>(ts++[v]).getD i (.Name "" ⟨0,0,0,0⟩)
 | .Expr e _=>e
 | .Return (some e) _=>e
 | .If t _ _ _=>t
 | .For t it _ _ _=>if i=0 then t else it
 | .While t _ _ _=>t
 | _=>.Name "" ⟨0,0,0,0⟩
noncomputable def kE (e:Expr) (i:Nat):Expr:=(match e with
 | .BinOp l _ r _=>[l,r]
 | .UnaryOp _ x _=>[x]
 | .Compare l _ rs _=>l::rs
 | .Call f as _ _=>f::as
 | .Attribute o _ _=>[o]
 | .Subscript o i _=>[o,i]
 | .Tuple es _ _=>es
 | .List es _=>es
 | .IfExp t b o _=>[t,b,o]
 | .BoolOp _ es _=>es
 | _=>[]).getD i (.Name "" ⟨0,0,0,0⟩)
noncomputable def hD (s:Stmt):ExceptHandler:=match s with
 | .Try _ (h::_) _ _ _=>h
 | _=>.ExceptHandler none none [] ⟨0,0,0,0⟩
@[reducible] noncomputable def cF (ns:List Str) (gs:List Nat) (Q:Bt) (n:Nat) (env:Env):Cn:=⟨Q,n,env,ns,[],[],true,gs⟩
structure FnOk (s:Stmt) (t:T) (ns pn rs:List Str) (gs:List Nat):Prop where
 hb:BindP (prS s) pn
 ho:fOk (scS s) ns [] gs=true
 en:ns=pn++rs
 hc:(scS s).names.all (fun x=>x.2 != .cell)=true
 ht:bdS s=dnS ns [] t
theorem FnOk.cok (X:Cx Q) {s:Stmt} {t:T} {ns pn rs:List Str} {gs:List Nat} (h:FnOk s t ns pn rs gs) {env:Env} (E:EnvOk env (scS s) []):Cok (cF ns gs Q n env) (scS s):=
 have o:=fOk_ok h.ho
 ⟨X,E,o.eq,o.loc,o.nd,(fun _ m=>nomatch m),(fun _ _ m=>nomatch m),List.nodup_nil,rfl,o.gl⟩
theorem FnOk.wd (X:Cx Q) {s:Stmt} {t:T} {ns pn rs:List Str} {gs:List Nat} (h:FnOk s t ns pn rs gs) {f:Addr} (hf:FnIs Q.hB f (prS s) (bdS s) (scS s) []) {args:List AV} {Φ:AV→St→Prop} (hl:args.length=pn.length) (k:∀ env,EnvOk env (scS s) []→runS (cF ns gs Q n env) 100 true t (fr0 ns args) σ (retO Φ)):WD Q (n+1) (.ref f) args σ Φ:=
 wd_def X (FnIs.fits (fun W h I=>let ⟨o,fd,g,d,c,e1,e2,e3,e4,e5,e6,e7⟩:=hf;⟨o,fd,I.keepB _ _ g,d,c.keeps I.keepB,e1,e2,e3,e4,e5,e6,e7⟩) h.hb hl) (fOk_ok h.ho) h.en (fun x m e=>by have:=List.all_eq_true.mp h.hc x m;rw [e] at this;cases this) hl fun env E=>by rw [h.ht];exact runS_ok (h.cok X E) 100 true t _ _ _ (k env E)
theorem FnOk.wg (X:Cx Q) {i:Nat} {t:T} {ns pn rs:List Str} {gs:List Nat} (h:FnOk (st i) t ns pn rs gs) (hi:fnIdx.elem i=true) {args:List AV} {Φ:AV→St→Prop} (hl:args.length=pn.length) (k:∀ env,EnvOk env (scS (st i)) []→runS (cF ns gs Q n env) 100 true t (fr0 ns args) σ (retO (thn Φ))):WG Q (n+1) i args σ Φ:=fun a ha=>by
 obtain ⟨a',h1,h2⟩:=X.fn i (elem_mem hi)
 rw [ha] at h1
 cases h1
 exact WC.thin (WD.wc (h.wd X h2 hl k))
theorem FnOk.wm (X:Cx Q) {i j:Nat} {t:T} {ns pn rs:List Str} {gs:List Nat} (h:FnOk (mth i j) t ns pn rs gs) (hi:mtTab.elem (i,j)=true) {args:List AV} {Φ:AV→St→Prop} (hl:args.length=pn.length) (k:∀ env,EnvOk env (scS (mth i j)) []→runS (cF ns gs Q n env) 100 true t (fr0 ns args) σ (retO (thn Φ))):WM Q (n+1) i j args σ Φ:=fun f hf=>by
 obtain ⟨f',h1,h2⟩:=X.mt (i,j) (elem_mem hi)
 have e:f'=f:=by
  simp only [methIn,Bool.and_eq_true,beq_iff_eq] at hf h1
  have:=h1.1.1.2.symm.trans hf.1.1.2
  cases this;rfl
 subst e
 exact WC.thin (WD.wc (h.wd X h2 hl k))
end
end
section
open Builtin Builtin.ObjectAttr
noncomputable def anyStr (x:Str):List AV→Option Bool
 | []=>some false
 | .str y::r=>(anyStr x r).map fun b=>(y==x) || b
 | _=>none
noncomputable def anyInt (k:Int):List AV→Option Bool
 | []=>some false
 | .int j::r=>(anyInt k r).map fun b=>(j==k) || b
 | _=>none
noncomputable def eS (x:Str):Value→Bool
 | .str y _=>y==x
 | _=>false
noncomputable def eI (k:Int):Value→Bool
 | .int j _=>j==k
 | _=>false
noncomputable def idxStr (x:Str):List AV→Option Nat
 | []=>none
 | .str y::r=>if y==x then some 0 else (idxStr x r).map (·+1)
 | _=>none
section
variable {Q:Bt} {F:FH}
theorem anyStr_ok {x:Str} {vs:List Value} {l:List AV} {c:Bool} (h:VL Q F vs l) (e:anyStr x l=some c):vs.any (eS x)=c∧∀ y∈vs,∃ z t,y=.str z t:=by
 induction l generalizing vs c with
 | nil=>cases vl_0 h;cases e;exact ⟨rfl,fun _ m=>nomatch m⟩
 | cons d l ih=>
  obtain ⟨v,vs,rfl,hv,r⟩:=vl_c h
  cases d with
  | str z=>
   obtain ⟨t,rfl⟩:=v_str hv
   obtain ⟨b,hb,rfl⟩:=Option.map_eq_some_iff.mp e
   obtain ⟨h1,h2⟩:=ih r hb
   refine ⟨by rw [List.any_cons,h1];rfl,fun y hy=>?_⟩
   rcases List.mem_cons.mp hy with rfl|hy
   ·exact ⟨_,_,rfl⟩
   ·exact h2 y hy
  | _=>first|exact ffE e|exact tfE e|exact noE e|cases e
theorem anyInt_ok {x:Int} {vs:List Value} {l:List AV} {c:Bool} (h:VL Q F vs l) (e:anyInt x l=some c):vs.any (eI x)=c∧∀ y∈vs,∃ z t,y=.int z t:=by
 induction l generalizing vs c with
 | nil=>cases vl_0 h;cases e;exact ⟨rfl,fun _ m=>nomatch m⟩
 | cons d l ih=>
  obtain ⟨v,vs,rfl,hv,r⟩:=vl_c h
  cases d with
  | int z=>
   obtain ⟨t,rfl⟩:=v_int hv
   obtain ⟨b,hb,rfl⟩:=Option.map_eq_some_iff.mp e
   obtain ⟨h1,h2⟩:=ih r hb
   refine ⟨by rw [List.any_cons,h1];rfl,fun y hy=>?_⟩
   rcases List.mem_cons.mp hy with rfl|hy
   ·exact ⟨_,_,rfl⟩
   ·exact h2 y hy
  | _=>first|exact ffE e|exact tfE e|exact noE e|cases e
theorem intsAre {vs:List Value} {ns:List Int} (h:VL Q F vs (ns.map .int)):IntsAre vs ns:=by
 induction ns generalizing vs with
 | nil=>cases vl_0 h;exact .nil
 | cons n ns ih=>
  obtain ⟨v,vs,rfl,hv,r⟩:=vl_c h
  obtain ⟨t,rfl⟩:=v_int hv
  exact .cons _ _ (ih r)
theorem idxStr_ok {x:Str} {vs:List Value} {l:List AV} {j:Nat} (h:VL Q F vs l) (e:idxStr x l=some j):∃ h:j < vs.length,eS x vs[j]=true∧∀ m (hm:m < vs.length),m < j→eS x vs[m]=false:=by
 induction l generalizing vs j with
 | nil=>first|exact ffE e|exact tfE e|exact noE e|cases e
 | cons d l ih=>
  obtain ⟨v,vs,rfl,hv,r⟩:=vl_c h
  cases d with
  | str z=>
   obtain ⟨t,rfl⟩:=v_str hv
   unfold idxStr at e
   split at e
   ·rename_i q
    cases e
    exact ⟨Nat.zero_lt_succ _,q,fun m _ hm=>absurd hm (Nat.not_lt_zero _)⟩
   ·rename_i q
    obtain ⟨i,hi,rfl⟩:=Option.map_eq_some_iff.mp e
    obtain ⟨h1,h2,h3⟩:=ih r hi
    refine ⟨Nat.succ_lt_succ h1,h2,fun m hm hlt=>?_⟩
    cases m with
    | zero=>exact Bool.eq_false_iff.mpr q
    | succ m=>exact h3 m (Nat.lt_of_succ_lt_succ hm) (Nat.lt_of_succ_lt_succ hlt)
  | _=>first|exact ffE e|exact tfE e|exact noE e|cases e
theorem allStr {vs:List Value} {xs:List Str} (h:VL Q F vs (xs.map .str)):∀ y∈vs,∃ z t,y=.str z t:=by
 induction xs generalizing vs with
 | nil=>cases vl_0 h;exact fun _ m=>nomatch m
 | cons x xs ih=>
  obtain ⟨v,vs,rfl,hv,r⟩:=vl_c h
  intro y hy
  rcases List.mem_cons.mp hy with rfl|hy
  ·obtain ⟨t,rfl⟩:=v_str hv;exact ⟨_,_,rfl⟩
  ·exact ih r y hy
theorem vl_take {vs:List Value} {ds:List AV} (k:Nat) (h:VL Q F vs ds):VL Q F (vs.take k) (ds.take k):=by
 induction ds generalizing vs k with
 | nil=>cases vl_0 h;rw [List.take_nil,List.take_nil];exact .nil
 | cons d ds ih=>
  obtain ⟨v,vs,rfl,hv,r⟩:=vl_c h
  cases k with
  | zero=>exact .nil
  | succ k=>exact .cons hv (ih k r)
theorem vl_drop {vs:List Value} {ds:List AV} (k:Nat) (h:VL Q F vs ds):VL Q F (vs.drop k) (ds.drop k):=by
 induction k generalizing vs ds with
 | zero=>exact h
 | succ k ih=>cases ds with
  | nil=>cases vl_0 h;exact .nil
  | cons d ds=>
   obtain ⟨v,vs,rfl,hv,r⟩:=vl_c h
   exact ih r
theorem vl_strs (t:Nat) (l:List Str):VL Q F (strsFrom t l) (l.map .str):=by
 induction l generalizing t with
 | nil=>exact .nil
 | cons x l ih=>exact .cons (.str _ _) (ih _)
end
theorem any_toList {vs:Array Value} {e:Value→Bool}:vs.any e=vs.toList.any e:=by rw [Array.any_toList]
section
variable {Q:Bt} {n:Nat} {σ σ':St} {x y:Str} {l:List AV} {a b:Addr} {K:Bool→Prop} {W:Wd} {h:Heap}
theorem cs_eqS (k:K (x==y)):CmpS Q σ .Eq (.str x) (.str y) K:=⟨_,fun A p u v G _ _ I hu hv kk=>by
 obtain ⟨t,rfl⟩:=v_str hu
 obtain ⟨t',rfl⟩:=v_str hv
 exact PyProof.Rows.eq_str (kk p.s.toks),k⟩
theorem cs_neS (k:K (x != y)):CmpS Q σ .NotEq (.str x) (.str y) K:=⟨_,fun A p u v G _ _ I hu hv kk=>by
 obtain ⟨t,rfl⟩:=v_str hu
 obtain ⟨t',rfl⟩:=v_str hv
 exact PyProof.Rows.ne_str (kk p.s.toks),k⟩
theorem cs_t (k:K true):CmpS Q σ .Eq (.str x) (.str x) K:=cs_eqS (by rw [beq_self_eq_true];exact k)
theorem cs_f (e:(x==y)=false) (k:K false):CmpS Q σ .Eq (.str x) (.str y) K:=cs_eqS (by rw [e];exact k)
theorem cs_nt (e:(x==y)=false) (k:K true):CmpS Q σ .NotEq (.str x) (.str y) K:=cs_neS (by rw [bne,e];exact k)
theorem cs_nf (k:K false):CmpS Q σ .NotEq (.str x) (.str x) K:=cs_neS (by rw [bne,beq_self_eq_true];exact k)
theorem cs_isnN (k:K false):CmpS Q σ .IsNot .none .none K:=⟨_,fun A p u v G _ _ I hu hv kk=>by
 obtain rfl:=v_none hu
 obtain rfl:=v_none hv
 exact isnot_none_none (kk p.s.toks),k⟩
theorem cs_isnI {c:Nat} {fs:List AV} (k:K true):CmpS Q σ .IsNot (.inst c fs) .none K:=⟨_,fun A p u v G _ _ I hu hv kk=>by
 obtain ⟨a,_,_,_,rfl,_⟩:=v_inst hu
 obtain rfl:=v_none hv
 exact isnot_none_ne nofun (kk p.s.toks),k⟩
theorem cs_neB {b c:Array UInt8} (k:K (b.toList != c.toList)):CmpS Q σ .NotEq (.byt b) (.byt c) K:=⟨_,fun A p u v G _ _ I hu hv kk=>by
 obtain ⟨t,rfl⟩:=v_byt hu
 obtain ⟨t',rfl⟩:=v_byt hv
 exact PySem.W.ne_bytes (kk p.s.toks),k⟩
theorem cs_inT {c:Bool} (h:anyStr x l=some c) (k:K c):CmpS Q σ .In (.str x) (.tup l) K:=⟨_,fun A p u v G _ _ I hu hv kk=>by
 obtain ⟨t,rfl⟩:=v_str hu
 obtain ⟨a,vs,m,rfl,e,hl⟩:=v_tup hv
 obtain ⟨h1,h2⟩:=anyStr_ok hl h
 refine SeqAt.in_tupleAt (eS x) ⟨_,I.frz _ _ e,rfl,_,rfl⟩ (fun y hy=>?_) (by rw [any_toList,h1];exact kk p.s.toks)
 obtain ⟨z,t,rfl⟩:=h2 y (Array.mem_toList_iff.mpr hy)
 exact (eqGives_str z x t _).at _ _,k⟩
theorem cs_ninT {c:Bool} (h:anyStr x l=some c) (k:K (!c)):CmpS Q σ .NotIn (.str x) (.tup l) K:=⟨_,fun A p u v G _ _ I hu hv kk=>by
 obtain ⟨t,rfl⟩:=v_str hu
 obtain ⟨a,vs,m,rfl,e,hl⟩:=v_tup hv
 obtain ⟨h1,h2⟩:=anyStr_ok hl h
 refine SeqAt.notIn_tupleAt (eS x) ⟨_,I.frz _ _ e,rfl,_,rfl⟩ (fun y hy=>?_) (by rw [any_toList,h1];exact kk p.s.toks)
 obtain ⟨z,t,rfl⟩:=h2 y (Array.mem_toList_iff.mpr hy)
 exact (eqGives_str z x t _).at _ _,k⟩
theorem cs_inL {c:Bool} (hc:(a,.lst l)∈σ) (h:anyStr x l=some c) (k:K c):CmpS Q σ .In (.str x) (.ref a) K:=⟨_,fun A p u v G _ _ I hu hv kk=>by
 obtain ⟨t,rfl⟩:=v_str hu
 obtain rfl:=v_ref hv
 obtain ⟨vs,m,ho,hl,_⟩:=I.cells _ hc
 obtain ⟨h1,h2⟩:=anyStr_ok hl h
 refine SeqAt.in_listAt (eS x) ⟨_,ho,rfl,_,rfl⟩ (fun y hy=>?_) (by rw [any_toList,h1];exact kk p.s.toks)
 obtain ⟨z,t,rfl⟩:=h2 y (Array.mem_toList_iff.mpr hy)
 exact (eqGives_str z x t _).at _ _,k⟩
theorem cs_ninL {c:Bool} (hc:(a,.lst l)∈σ) (h:anyStr x l=some c) (k:K (!c)):CmpS Q σ .NotIn (.str x) (.ref a) K:=⟨_,fun A p u v G _ _ I hu hv kk=>by
 obtain ⟨t,rfl⟩:=v_str hu
 obtain rfl:=v_ref hv
 obtain ⟨vs,m,ho,hl,_⟩:=I.cells _ hc
 obtain ⟨h1,h2⟩:=anyStr_ok hl h
 refine SeqAt.notIn_listAt (eS x) ⟨_,ho,rfl,_,rfl⟩ (fun y hy=>?_) (by rw [any_toList,h1];exact kk p.s.toks)
 obtain ⟨z,t,rfl⟩:=h2 y (Array.mem_toList_iff.mpr hy)
 exact (eqGives_str z x t _).at _ _,k⟩
theorem cs_inI {x:Int} {c:Bool} (hc:(a,.lst l)∈σ) (h:anyInt x l=some c) (k:K c):CmpS Q σ .In (.int x) (.ref a) K:=⟨_,fun A p u v G _ _ I hu hv kk=>by
 obtain ⟨t,rfl⟩:=v_int hu
 obtain rfl:=v_ref hv
 obtain ⟨vs,m,ho,hl,_⟩:=I.cells _ hc
 obtain ⟨h1,h2⟩:=anyInt_ok hl h
 refine SeqAt.in_listAt (eI x) ⟨_,ho,rfl,_,rfl⟩ (fun y hy=>?_) (by rw [any_toList,h1];exact kk p.s.toks)
 obtain ⟨z,t,rfl⟩:=h2 y (Array.mem_toList_iff.mpr hy)
 exact (MeetsSeq.EqGives.int z x t _).at _ _,k⟩
theorem not_sm (X:Cx Q) (I:Inv Q W σ h) (ow:W.own a=some a):(a==sysModules)=false:=beq_eq_false_iff_ne.mpr fun e=>by
 obtain ⟨o,g⟩:=X.sm
 have:=(I.base sysModules o g).2
 rw [← e,ow] at this;cases this
theorem vo_isSome {F:FH} {o:Option Value} {d:Option AV} (h:VO Q F o d):o.isSome=d.isSome:=by cases h<;>rfl
theorem cs_ninZ (X:Cx Q) {k':Int} {m:Int→Option AV} {z:Nat} (hc:(a,.zd m z)∈σ) (k:K (!(m k').isSome)):CmpS Q σ .NotIn (.int k') (.ref a) K:=⟨_,fun A p u v G _ _ I hu hv kk=>by
 obtain ⟨t,rfl⟩:=v_int hu
 obtain rfl:=v_ref hv
 obtain ⟨kvs,ho,_,hl,ow⟩:=I.cells _ hc
 exact wpAny_notIn_of (knd:=intKind Q.prog Q.w) (k:=k') (PySem.intKind_is _ _ _ _) (not_sm X I ow) ho.mapOf (by rw [vo_isSome (hl k')];exact kk _),k⟩
theorem cs_neF {ns ms:List Int} (hc':(b,.lst (ms.map .int))∈σ) (k:K (!decide (ns=ms))):CmpS Q σ .NotEq (.lst (ns.map .int)) (.ref b) K:=⟨_,fun A p u v G _ hU I hu hv kk=>by
 obtain ⟨a,vs,m,rfl,e,hl⟩:=v_lst hu
 obtain rfl:=v_ref hv
 obtain ⟨vs',m',ho',hl',_⟩:=I.cells _ hc'
 exact ne_intsK (vs:=vs.toList) (us:=vs'.toList) ⟨_,I.frz _ _ e,rfl,_,rfl⟩ (intsAre hl) ⟨_,ho',rfl,_,rfl⟩ (intsAre hl') hU (kk p.s.toks),k⟩
theorem cs_eqI {ns ms:List Int} (hc:(a,.lst (ns.map .int))∈σ) (hc':(b,.lst (ms.map .int))∈σ) (k:K (decide (ns=ms))):CmpS Q σ .Eq (.ref a) (.ref b) K:=⟨_,fun A p u v G _ hU I hu hv kk=>by
 obtain rfl:=v_ref hu
 obtain rfl:=v_ref hv
 obtain ⟨vs,m,ho,hl,_⟩:=I.cells _ hc
 obtain ⟨vs',m',ho',hl',_⟩:=I.cells _ hc'
 exact eq_intsK (vs:=vs.toList) (us:=vs'.toList) ⟨_,ho,rfl,_,rfl⟩ (intsAre hl) ⟨_,ho',rfl,_,rfl⟩ (intsAre hl') hU (kk p.s.toks),k⟩
theorem cs_len {l l':List AV} (hc:(a,.lst l)∈σ) (hl0:l'.length≤1000) (h:(l.length != l'.length)=true) (k:K false):CmpS Q σ .Eq (.ref a) (.lst l') K:=⟨_,fun A p u v G _ hU I hu hv kk=>by
 obtain rfl:=v_ref hu
 obtain ⟨b,vs',m',rfl,e',hl'⟩:=v_lst hv
 obtain ⟨vs,m,ho,hl,_⟩:=I.cells _ hc
 exact SeqAt.eq_list_lengthsAt ⟨_,ho,rfl,_,rfl⟩ ⟨_,I.frz _ _ e',rfl,_,rfl⟩ (by rw [vl_size hl,vl_size hl'];exact h) (Nat.lt_of_le_of_lt (Nat.le_add_right _ 64) hU) (kk p.s.toks),k⟩
theorem ss_lst {l:List AV} {k:Int} {d:AV} {σ₁ σ₂:St} {Kk:St→Prop} (h0:0≤k) (h1:k < l.length) (h2:l.length≤1000) (kk:Kk (σ₁++(a,.lst (l.set k.toNat d))::σ₂)):SetS Q (σ₁++(a,.lst l)::σ₂) (.ref a) (.int k) d Kk:=⟨_,fun A p u x v G _ _ I hu hx hv g=>by
 obtain rfl:=v_ref hu
 obtain ⟨t,rfl⟩:=v_int hx
 obtain ⟨vs,m,ho,hl,ow⟩:=cell_mid I
 have hn:=vl_size hl
 refine ki_setAt ho h0 (Int.lt_of_lt_of_le h1 (Int.le_trans (Int.ofNat_le.mpr h2) (by decide))) (by rw [hn];exact h1) ?_
 obtain ⟨m',e⟩:∃ m',Obj.mapSeq (·.setIfInBounds k.toNat v) (PySem.W.listOf vs m)=PySem.W.listOf (vs.setIfInBounds k.toNat v) m':=⟨_,rfl⟩
 have gg:(p.s.heap.update a (Obj.mapSeq (·.setIfInBounds k.toNat v))).get? a=some (PySem.W.listOf (vs.setIfInBounds k.toNat v) m'):=by
  have:=Heap.get?_update_self (Obj.mapSeq (·.setIfInBounds k.toNat v)) ho (by rw [e];rfl)
  rw [e] at this;exact this
 obtain ⟨I',x⟩:=upd_at (c':=.lst (l.set k.toNat d)) p.s.toks I ow (Heap.SameBut.update ..) ⟨_,gg⟩ ⟨_,_,gg,by rw [Array.toList_setIfInBounds];exact vl_set hv hl,ow⟩
 exact g _ _ I' x,kk⟩
theorem valueAt_stored {α:Type} [DecidableEq α] (kvs:List (α × Value)) (k j:α) (v:Value):valueAt (stored kvs k v) j=if j=k then some v else valueAt kvs j:=by
 have one:∀ (y:α) (u:Value) (r:List (α × Value)),valueAt ((y,u)::r) j=if y=j then some u else valueAt r j:=fun y u r=>by
  unfold valueAt
  rw [List.find?_cons]
  by_cases q:y=j
  ·rw [if_pos q,decide_eq_true q];rfl
  ·rw [if_neg q,decide_eq_false q]
 have put:∀ r:List (α × Value),valueAt (r.map fun kv=>if kv.1=k then (kv.1,v) else kv) j=if j=k then (if r.any (fun kv=>kv.1=k) then some v else none) else valueAt r j:=fun r=>by
  induction r with
  | nil=>by_cases q:j=k<;>simp [q,valueAt]
  | cons p r ih=>
   obtain ⟨y,u⟩:=p
   rw [List.map_cons,List.any_cons,one y u]
   by_cases q:y=k
   ·subst q
    rw [if_pos rfl,one,decide_eq_true rfl,Bool.true_or,if_pos rfl,ih]
    by_cases z:j=y
    ·rw [if_pos z,if_pos z.symm,if_pos z]
    ·rw [if_neg z,if_neg (fun e=>z e.symm),if_neg z,if_neg (fun e=>z e.symm)]
   ·rw [if_neg q,one,decide_eq_false q,Bool.false_or,ih]
    by_cases z:j=k
    ·rw [if_pos z,if_neg (fun e=>q (e.trans z)),if_pos z]
    ·rw [if_neg z,if_neg z]
 unfold stored
 by_cases e:(kvs.any fun kv=>kv.1=k)=true
 ·rw [if_pos e,put,if_pos e]
 ·rw [if_neg e]
  have app:∀ r:List (α × Value),valueAt (r++[(k,v)]) j=(valueAt r j).or (if k=j then some v else none):=fun r=>by
   induction r with
   | nil=>exact (one k v []).trans (by by_cases q:k=j<;>simp [q,valueAt])
   | cons p r ih=>
    rw [List.cons_append,one p.1 p.2,one p.1 p.2,ih]
    by_cases q:p.1=j
    ·rw [if_pos q,if_pos q];rfl
    ·rw [if_neg q,if_neg q]
  rw [app]
  by_cases z:j=k
  ·subst z
   rw [if_pos rfl,if_pos rfl]
   have:valueAt kvs j=none:=by
    unfold valueAt
    rw [Option.map_eq_none_iff,List.find?_eq_none]
    exact fun p hp q=>e (List.any_eq_true.mpr ⟨p,hp,q⟩)
   rw [this];rfl
  ·rw [if_neg z,if_neg (fun q=>z q.symm),Option.or_none]
theorem ss_zd {m:Int→Option AV} {z:Nat} {k:Int} {d:AV} {σ₁ σ₂:St} {Kk:St→Prop} (hz:z≤1000000) (kk:Kk (σ₁++(a,.zd (fun j=>if j=k then some d else m j) (z+1))::σ₂)):SetS Q (σ₁++(a,.zd m z)::σ₂) (.ref a) (.int k) d Kk:=⟨_,fun A p u x v G _ _ I hu hx hv g=>by
 obtain rfl:=v_ref hu
 obtain ⟨t,rfl⟩:=v_int hx
 obtain ⟨kvs,ho,hn,hl,ow⟩:=cell_mid I
 refine wpAny_setItem_pairs (k:=k) (PySem.intKind_is _ _ _ _) ho (fun h' ho' hs=>?_) (sl (Nat.le_trans hn (Nat.le_trans hz (by decide))))
 obtain ⟨I',x⟩:=upd_at (c':=.zd (fun j=>if j=k then some d else m j) (z+1)) (p.s.toks+1) I ow hs (let ⟨o,_,_,e,_⟩:=ho';⟨o,e⟩) ⟨_,ho',Nat.le_trans (stored_length_le _ _ _) (Nat.succ_le_succ hn),fun j=>by
  rw [valueAt_stored]
  by_cases q:j=k
  ·rw [if_pos q];show VO _ _ _ (if j=k then some d else m j);rw [if_pos q];exact .some hv
  ·rw [if_neg q];show VO _ _ _ (if j=k then some d else m j);rw [if_neg q];exact hl j,ow⟩
 exact g _ _ I' x,kk⟩
noncomputable def putS (y:Str) (d:AV):List (Str × AV)→List (Str × AV)
 | []=>[(y,d)]
 | (x,e)::r=>if x=y then (x,d)::r else (x,e)::putS y d r
theorem stored_cons {α:Type} [DecidableEq α] (x y:α) (u v:Value) (r:List (α × Value)) (h:x≠y):stored ((x,u)::r) y v=(x,u)::stored r y v:=by
 unfold stored
 rw [List.any_cons,decide_eq_false h,Bool.false_or,List.map_cons,if_neg h]
 split<;>rfl
theorem vk_put {F:FH} {y:Str} {v:Value} {d:AV} (hv:V Q F v d) {kvs:List (Str × Value)} {fs:List (Str × AV)} (h:VK Q F kvs fs) (nd:(kvs.map (·.1)).Nodup):VK Q F (stored kvs y v) (putS y d fs):=by
 induction h with
 | nil=>exact .cons hv .nil
 | @cons x u e vs ds h r ih=>
  rw [List.map_cons,List.nodup_cons] at nd
  by_cases q:x=y
  ·subst q
   have e:(vs.map fun kv=>if kv.1=x then (kv.1,v) else kv)=vs:=(List.map_congr_left fun kv m=>if_neg fun z:kv.1=x=>nd.1 (z▸(List.mem_map_of_mem m:kv.1∈vs.map (·.1)))).trans (List.map_id vs)
   unfold putS stored
   rw [if_pos rfl,List.any_cons,decide_eq_true rfl,Bool.true_or,if_pos rfl,List.map_cons,if_pos rfl,e]
   exact .cons hv r
  ·unfold putS
   rw [if_neg q,stored_cons _ _ _ _ _ q]
   exact .cons h (ih nd.2)
theorem ss_sd {fs:List (Str × AV)} {y:Str} {d:AV} {σ₁ σ₂:St} {Kk:St→Prop} (hz:fs.length≤1000) (kk:Kk (σ₁++(a,.sd (putS y d fs))::σ₂)):SetS Q (σ₁++(a,.sd fs)::σ₂) (.ref a) (.str y) d Kk:=⟨_,fun A p u x v G _ _ I hu hx hv g=>by
 obtain rfl:=v_ref hu
 obtain ⟨t,rfl⟩:=v_str hx
 obtain ⟨kvs,ho,hl,ow⟩:=cell_mid I
 have nd:(kvs.map (·.1)).Nodup:=let ⟨_,_,_,_,_,_,_,_,nd⟩:=ho;nd
 refine wpAny_setItem_pairs (k:=y) (PySem.strKind_is _ _ _ _) ho (fun h' ho' hs=>?_) (by rw [vk_len hl];exact sl3 hz)
 obtain ⟨I',x⟩:=upd_at (c':=.sd (putS y d fs)) (p.s.toks+1) I ow hs (let ⟨o,_,_,e,_⟩:=ho';⟨o,e⟩) ⟨_,ho',vk_put hv hl nd,ow⟩
 exact g _ _ I' x,kk⟩
end
end
section
open Builtin Builtin.ObjectAttr
noncomputable def wordsX (x:Str):List Str:=if Builtin.Str.spaceWords x (x.length+1)==[(0,x.length)] then [x] else PySem.wordsOf x
theorem fresh_size {h:Heap}:h.get? h.objs.size=none:=by
 cases e:h.get? h.objs.size with
 | none=>rfl
 | some o=>exact absurd (Heap.lt_size e) (Nat.lt_irrefl _)
section
variable {Q:Bt} {n:Nat} {σ σ':St} {W:Wd} {h:Heap} {a:Addr} {l:List AV} {Φ:AV→St→Prop} {f:Value} {args:List AV}
theorem Inv.adopt {D:Addr} {c:Cell} (I:Inv Q W σ h) (h1:W.own D=none) (h2:W.F D=none) (h3:Q.hB.get? D=none) (h4:∃ o,h.get? D=some o) (hc:CellAt Q (W.add D) h D c):Inv Q (W.add D) ((D,c)::σ) h:=by
 have ow:∀ b x,W.own b=some x→b≠D:=fun b x e q=>by rw [q,h1] at e;cases e
 refine ⟨I.frz,fun b o e=>(Wd.add_ne fun q=>by have e':W.F D=some o:=q▸e;rw [h2] at e';cases e').trans (I.frzO b o e),fun b x e=>?_,fun p hp=>?_,?_,fun b o e=>⟨(I.base b o e).1,(Wd.add_ne fun q=>by rw [q,h3] at e;cases e).trans (I.base b o e).2⟩⟩
 ·by_cases q:b=D
  ·rw [q];exact h4
  ·rw [Wd.add_ne q] at e;exact I.live b x e
 ·rcases List.mem_cons.mp hp with rfl|hp
  ·exact hc
  ·exact (I.cells p hp).keep (FLe.refl _) (fun b e=>(Wd.add_ne (ow b _ e)).trans e) (fun b o _ e=>e) fun b o e=>I.frz b o e
 ·rw [List.map_cons,List.nodup_cons]
  refine ⟨fun q=>?_,I.nd⟩
  obtain ⟨p,hp,e⟩:=List.mem_map.mp q
  exact ow p.1 _ (I.cells p hp).owned e
theorem Bh.adopt {p q:Po} {D:Addr} (x:Bh none p q) (hD:p.s.heap.get? D=none):Bh none p ⟨q.W.add D,q.s⟩:=
 ⟨x.F,fun b o e g=>let ⟨u1,u2,u3,u4⟩:=x.un b o e g;⟨(Wd.add_ne fun q=>by rw [q,hD] at g;cases g).trans u1,u2,u3,u4⟩,x.gens,x.drawn,x.os⟩
theorem Inv.nob (I:Inv Q W σ h) {D:Addr} (hD:h.get? D=none):W.own D=none∧W.F D=none∧Q.hB.get? D=none:=by
 refine ⟨?_,?_,?_⟩
 ·cases e:W.own D with
  | none=>rfl
  | some y=>obtain ⟨o,g⟩:=I.live D y e;rw [hD] at g;cases g
 ·cases e:W.F D with
  | none=>rfl
  | some y=>have:=I.frz D y e;rw [hD] at this;cases this
 ·cases e:Q.hB.get? D with
  | none=>rfl
  | some y=>have:=(I.base D y e).1;rw [hD] at this;cases this
theorem wc_look {d:AV} (h:∀ (A:Around) (p:Po) (vs:List Value) (G:Value→Shared→Prop),Room A n→Inv Q p.W σ p.s.heap→VL Q p.W.F vs args→(∀ x t,V Q p.W.F x d→G x (p.tok t).s)→WP Q A (call f vs) G p.s) (hΦ:Φ d σ):WC Q n f args σ Φ:=fun A p vs G r I hv k=>
 h A p vs G r I hv fun x t hx=>k σ (p.tok t) x d I (Bh.tok (Bh.refl _ p) t) hx hΦ
theorem wc_keep {d:AV} (h:∀ (A:Around) (p:Po) (vs:List Value) (G:Value→Shared→Prop),Room A n→Inv Q p.W σ p.s.heap→VL Q p.W.F vs args→(∀ x h' t,(∀ b o,p.s.heap.get? b=some o→h'.get? b=some o)→V Q p.W.F x d→G x { p.s with heap:=h',toks:=t })→WP Q A (call f vs) G p.s) (hΦ:Φ d σ):WC Q n f args σ Φ:=fun A p vs G r I hv k=>
 h A p vs G r I hv fun x h' t hk hx=>k σ ⟨p.W,{ p.s with heap:=h',toks:=t }⟩ x d (I.keeps hk) (Ext.keeps hk rfl rfl rfl) hx hΦ
theorem wc_new {c:Cell} (h:∀ (A:Around) (p:Po) (vs:List Value) (G:Value→Shared→Prop),Room A n→Inv Q p.W σ p.s.heap→VL Q p.W.F vs args→(∀ D h' t,p.s.heap.get? D=none→(∀ b o,p.s.heap.get? b=some o→h'.get? b=some o)→(∃ o,h'.get? D=some o)→CellAt Q (p.W.add D) h' D c→G (.ref D) { p.s with heap:=h',toks:=t })→WP Q A (call f vs) G p.s) (hΦ:∀ D,Φ (.ref D) ((D,c)::σ)):
  WC Q n f args σ Φ:=fun A p vs G r I hv k=>
 h A p vs G r I hv fun D h' t hD hk hl hc=>
  have nob:=I.nob hD
  have x:Bh none p ⟨p.W,{ p.s with heap:=h',toks:=t }⟩:=Ext.keeps hk rfl rfl rfl
  k _ ⟨p.W.add D,{ p.s with heap:=h',toks:=t }⟩ (.ref D) (.ref D) ((I.keeps hk).adopt nob.1 nob.2.1 nob.2.2 hl hc) (x.adopt hD) (.ref D) (hΦ D)
theorem w_starts {x y:Str} (h:Φ (.bool (Txt.startswith x y)) σ):WC Q n (.builtin "str.startswith") [.str x,.str y] σ Φ:=wc_look (fun A p vs G R I hv k=>by
 obtain ⟨u,v,rfl,hu,hv'⟩:=vl_2 hv
 obtain ⟨t,rfl⟩:=v_str hu
 obtain ⟨t',rfl⟩:=v_str hv'
 exact SC.startswith (k _ p.s.toks (.bool _))) h
theorem w_intI {k:Int} (h:Φ (.int k) σ):WC Q n (.type "int") [.int k] σ Φ:=wc_look (fun A p vs G R I hv kk=>by
 obtain ⟨u,rfl,hu⟩:=vl_1 hv
 obtain ⟨t,rfl⟩:=v_int hu
 exact call_int_int (kk _ _ (.int _ _))) h
theorem w_intB {b:Bool} (h:Φ (.int (if b then 1 else 0)) σ):WC Q n (.type "int") [.bool b] σ Φ:=wc_look (fun A p vs G R I hv kk=>by
 obtain ⟨u,rfl,hu⟩:=vl_1 hv
 obtain rfl:=v_bool hu
 exact call_int_bool (kk _ _ (.int _ _))) h
theorem w_abs {k:Int} (h:Φ (.int (if k < 0 then -k else k)) σ):WC Q n (.builtin "abs") [.int k] σ Φ:=wc_look (fun A p vs G R I hv kk=>by
 obtain ⟨u,rfl,hu⟩:=vl_1 hv
 obtain ⟨t,rfl⟩:=v_int hu
 exact call_abs_int fun u tk=>kk _ _ (.int _ _)) h
theorem n40 {n:Nat} (h:n≤10^9):(n:Int) < 2^63:=Int.lt_of_le_of_lt (Int.ofNat_le.mpr h) (by decide)
theorem w_lenF (hz:l.length≤10^9) (h:Φ (.int (l.length:Int)) σ):WC Q n (.builtin "len") [.lst l] σ Φ:=wc_look (fun A p vs G R I hv kk=>by
 obtain ⟨u,rfl,hu⟩:=vl_1 hv
 obtain ⟨a,us,m,rfl,e,hl⟩:=v_lst hu
 exact Calls.call_len_list ⟨_,I.frz _ _ e,rfl,_,rfl⟩ (by rw [vl_size hl];exact n40 hz) (by rw [vl_size hl];exact kk _ _ (.int _ _))) h
theorem w_lenT (hz:l.length≤10^9) (h:Φ (.int (l.length:Int)) σ):WC Q n (.builtin "len") [.tup l] σ Φ:=wc_look (fun A p vs G R I hv kk=>by
 obtain ⟨u,rfl,hu⟩:=vl_1 hv
 obtain ⟨a,us,m,rfl,e,hl⟩:=v_tup hu
 exact len_tuple ⟨_,I.frz _ _ e,rfl,_,rfl⟩ (by rw [vl_size hl];exact n40 hz) (by rw [vl_size hl];exact kk _ _ (.int _ _))) h
theorem w_lenS {x:Str} (hz:x.length≤10^9) (h:Φ (.int (x.length:Int)) σ):WC Q n (.builtin "len") [.str x] σ Φ:=wc_look (fun A p vs G R I hv kk=>by
 obtain ⟨u,rfl,hu⟩:=vl_1 hv
 obtain ⟨t,rfl⟩:=v_str hu
 exact P.len_str (Int.not_le.mpr (n40 hz)) (kk _ _ (.int _ _))) h
theorem w_index {xs:List Str} {x:Str} {j:Nat} (hc:(a,.lst (xs.map .str))∈σ) (hj:idxStr x (xs.map .str)=some j) (hz:j < 1000) (h:Φ (.int (j:Int)) σ):WC Q n (.builtin "list.index") [.ref a,.str x] σ Φ:=wc_look (fun A p vs G R I hv kk=>by
 obtain ⟨u,v,rfl,hu,hv'⟩:=vl_2 hv
 obtain rfl:=v_ref hu
 obtain ⟨t,rfl⟩:=v_str hv'
 obtain ⟨us,m,ho,hl,ow⟩:=I.cells _ hc
 obtain ⟨q1,q2,q3⟩:=idxStr_ok hl hj
 have q1':j < us.size:=by rw [Array.length_toList] at q1;exact q1
 refine call_meets PySem.F.slot_list_index ⟨_,ho,rfl⟩ PySem.F.entry_list_index (PySem.F.args_list_index_2 _ _) (SeqAt.list_indexAt a us m none #[] (.str x _) (eS x) j q1' (by lia) (by rw [Array.getElem_toList] at q2;exact q2) (fun m hm hlt=>by have:=q3 m (by rw [Array.length_toList];exact hm) hlt;rw [Array.getElem_toList] at this;exact this)) ⟨ho,fun y hy=>?_,kk _ _ (.int _ _)⟩
 obtain ⟨z,t,rfl⟩:=allStr hl y (Array.mem_toList_iff.mpr hy)
 exact (eqGives_str z x t _).at _ _) h
theorem vo_getD {F:FH} {o:Option Value} {d:Option AV} {v:Value} {e:AV} (h:VO Q F o d) (hv:V Q F v e):V Q F (o.getD v) (d.getD e):=by
 cases h with
 | none=>exact hv
 | some h=>exact h
theorem w_getZ (X:Cx Q) {m:Int→Option AV} {z:Nat} {k:Int} {dd:AV} (hc:(a,.zd m z)∈σ) (h:Φ ((m k).getD dd) σ):WC Q n (.builtin "dict.get") [.ref a,.int k,dd] σ Φ:=wc_look (fun A p vs G R I hv kk=>by
 obtain ⟨u,v,w,rfl,hu,hv',hw⟩:=vl_3 hv
 obtain rfl:=v_ref hu
 obtain ⟨t,rfl⟩:=v_int hv'
 obtain ⟨kvs,ho,_,hl,ow⟩:=I.cells _ hc
 exact call_meetsIn PySem.F.slot_dict_get ho.typeIs PySem.F.entry_dict_get (PySem.F.args_dict_get_3 _ _ _) (meets_dict_get_default (intKind Q.prog Q.w) a (PySem.intKind_is _ _ k _) (not_sm X I ow) _) ⟨_,ho.mapOf,kk _ _ (vo_getD (hl k) hw)⟩) h
theorem w_getS (X:Cx Q) {fs:List (Str × AV)} {k:Str} {dd d:AV} (hc:(a,.sd fs)∈σ) (e:findS k (some dd) fs=some d) (h:Φ d σ):WC Q n (.builtin "dict.get") [.ref a,.str k,dd] σ Φ:=wc_look (fun A p vs G R I hv kk=>by
 obtain ⟨u,v,w,rfl,hu,hv',hw⟩:=vl_3 hv
 obtain rfl:=v_ref hu
 obtain ⟨t,rfl⟩:=v_str hv'
 obtain ⟨kvs,ho,hl,ow⟩:=I.cells _ hc
 obtain ⟨x,ex,hx⟩:=vo_some (e▸vk_find (x:=k) (VO.some hw) hl)
 have ex:(valueAt kvs k).getD w=x:=by
  cases q:valueAt kvs k with
  | none=>rw [q] at ex;exact Option.some.inj ex
  | some y=>rw [q] at ex;exact Option.some.inj ex
 exact call_meetsIn PySem.F.slot_dict_get ho.typeIs PySem.F.entry_dict_get (PySem.F.args_dict_get_3 _ _ _) (meets_dict_get_default (PySem.strKind Q.prog Q.w) a (PySem.strKind_is _ _ k _) (not_sm X I ow) _) ⟨_,ho.mapOf,by rw [ex];exact kk _ _ hx⟩) h
theorem w_split {x:Str} {xs:List Str} (hz:x.length≤1000) (hn:(Builtin.Str.spaceWords x (x.length+1)).length≤1000) (hx:wordsX x=xs) (h:∀ D,Φ (.ref D) ((D,.lst (xs.map .str))::σ)):WC Q n (.builtin "str.split") [.str x] σ Φ:=wc_new (fun A p vs G R I hv kk=>by
 obtain ⟨u,rfl,hu⟩:=vl_1 hv
 obtain ⟨t,rfl⟩:=v_str hu
 subst hx
 refine call_meets F.slot_str_split (typeIs_str _ _ _) F.entry_str_split (F.args_str_split_1 _) (meets_str_split_space x t (sl3 hz) (sl3 hn)) ?_
 unfold wordsX at kk
 split
 ·rename_i q
  rw [if_pos q] at kk
  exact kk _ _ _ fresh_size (fun b o e=>Heap.get?_push_of_some _ e) ⟨_,Heap.get?_push_size _ rfl⟩ ⟨_,_,Heap.get?_push_size _ rfl,.cons (.str _ _) .nil,Wd.add_self⟩
 ·rename_i q
  rw [if_neg q] at kk
  exact kk _ _ _ fresh_size (fun b o e=>Heap.get?_push_of_some _ e) ⟨_,Heap.get?_push_size _ rfl⟩ ⟨_,_,Heap.get?_push_size _ rfl,vl_strs _ _,Wd.add_self⟩) h
theorem w_splitS {x y:Str} {xs:List Str} (h1:(decide (x.length < y.length) || decide (Builtin.Str.strKind x < Builtin.Str.strKind y))=false) (hy:(y.length==0)=false)
  (hf:(Builtin.Str.occurrences x y 0 x.length (x.length+1)).isEmpty=false) (hz:x.length≤1000) (hx:Builtin.Str.partsBetween x (Builtin.Str.occurrences x y 0 x.length (x.length+1)) y.length=xs) (hn:xs.length≤1000) (h:∀ D,Φ (.ref D) ((D,.lst (xs.map .str))::σ)):
  WC Q n (.builtin "str.split") [.str x,.str y] σ Φ:=wc_new (fun A p vs G R I hv kk=>by
 obtain ⟨u,v,rfl,hu,hv'⟩:=vl_2 hv
 obtain ⟨t,rfl⟩:=v_str hu
 obtain ⟨t',rfl⟩:=v_str hv'
 subst hx
 exact call_meets F.slot_str_split (typeIs_str _ _ _) F.entry_str_split (F.args_str_split_2 _ _) (meets_str_split_sep x y t t' h1 hy hf (sl3 hz) (sl3 hn))
  (kk _ _ _ fresh_size (fun b o e=>Heap.get?_push_of_some _ e) ⟨_,Heap.get?_push_size _ rfl⟩ ⟨_,_,Heap.get?_push_size _ rfl,vl_strs _ _,Wd.add_self⟩)) h
theorem w_listT (hz:l.length≤1000) (h:∀ D,Φ (.ref D) ((D,.lst l)::σ)):WC Q n (.type "list") [.tup l] σ Φ:=wc_new (fun A p vs G R I hv kk=>by
 obtain ⟨u,rfl,hu⟩:=vl_1 hv
 obtain ⟨a,us,m,rfl,e,hl⟩:=v_tup hu
 exact call_list_seq _ (.inr rfl) (I.frz _ _ e) rfl rfl (fun h' c' hk hg=>kk _ _ _ fresh_size hk ⟨_,hg⟩ ⟨_,_,hg,hl,Wd.add_self⟩) (by rw [vl_size hl];exact sl3 hz)) h
theorem w_listL (hc:(a,.lst l)∈σ) (hz:l.length≤1000) (h:∀ D,Φ (.ref D) ((D,.lst l)::σ)):WC Q n (.type "list") [.ref a] σ Φ:=wc_new (fun A p vs G R I hv kk=>by
 obtain ⟨u,rfl,hu⟩:=vl_1 hv
 obtain rfl:=v_ref hu
 obtain ⟨us,m,ho,hl,ow⟩:=I.cells _ hc
 exact call_list_seq _ (.inl rfl) ho rfl rfl (fun h' c' hk hg=>kk _ _ _ fresh_size hk ⟨_,hg⟩ ⟨_,_,hg,hl,Wd.add_self⟩) (by rw [vl_size hl];exact sl3 hz)) h
theorem tup_of {p:Po} {us:Array Value} {h':Heap} {G:Value→Shared→Prop} (I:Inv Q p.W σ p.s.heap) (hl:VL Q p.W.F us.toList l) (hk:∀ b o,p.s.heap.get? b=some o→h'.get? b=some o) (k:∀ (σ':St) (q:Po) (v:Value) (d:AV),Inv Q q.W σ' q.s.heap→Bh none p q→V Q q.W.F v d→Φ d σ'→G v q.s) (h:Φ (.tup l) σ):G (.ref h'.objs.size) { p.s with heap:=h'.push { cls:=.type "tuple",data:=.seq us } }:=
 have x:Bh none p ⟨p.W,{ p.s with heap:=h' }⟩:=Ext.keeps hk rfl rfl rfl
 have I₁:Inv Q p.W σ ({ p.s with heap:=h' }:Shared).heap:=I.keeps hk
 have y:Bh none ⟨p.W,{ p.s with heap:=h' }⟩ ⟨p.W.freeze h'.objs.size { cls:=.type "tuple",data:=.seq us },{ p.s with heap:=h'.push { cls:=.type "tuple",data:=.seq us } }⟩:=Ext.pushF I₁ { cls:=.type "tuple",data:=.seq us } p.s.toks
 k σ ⟨_,_⟩ _ _ (I₁.pushF rfl) (x.trans y) (.tup Wd.freeze_self (hl.mono (Wd.freeze_le I₁.F_none))) h
theorem w_tupF (hz:l.length≤1000) (h:Φ (.tup l) σ):WC Q n (.type "tuple") [.lst l] σ Φ:=fun A p vs G R I hv k=>by
 obtain ⟨u,rfl,hu⟩:=vl_1 hv
 obtain ⟨a,us,m,rfl,e,hl⟩:=v_lst hu
 exact call_tuple_list ⟨_,I.frz _ _ e,rfl,_,rfl⟩ (fun h' hk=>tup_of I hl hk k h) (by rw [vl_size hl];exact sl3 hz)
theorem w_bytes {ns:List Int} (hc:(a,.lst (ns.map .int))∈σ) (hr:∀ n∈ns,0≤n∧n < 256) (hz:ns.length≤1000) (h:Φ (.byt (byteArr ns)) σ):WC Q n (.type "bytes") [.ref a] σ Φ:=wc_keep (fun A p vs G R I hv kk=>by
 obtain ⟨u,rfl,hu⟩:=vl_1 hv
 obtain rfl:=v_ref hu
 obtain ⟨us,m,ho,hl,ow⟩:=I.cells _ hc
 exact call_bytes_ints (vs:=us.toList) (ns:=ns) ⟨_,ho,rfl,_,rfl⟩ (intsAre hl) hr (by rw [vl_len hl,List.length_map];exact sl3 hz) R.hd fun h' t k hk=>kk _ _ _ hk (.byt _ _)) h
theorem w_sum {ns:List Int} (hc:(a,.lst (ns.map .int))∈σ) (h:Φ (.int ns.sum) σ):WC Q n (.builtin "sum") [.ref a] σ Φ:=wc_keep (fun A p vs G R I hv kk=>by
 obtain ⟨u,rfl,hu⟩:=vl_1 hv
 obtain rfl:=v_ref hu
 obtain ⟨us,m,ho,hl,ow⟩:=I.cells _ hc
 have hi:=intsAre hl
 obtain ⟨xs,e⟩:=AllInts.items (vs:=us) (by have:=hi.allInts;simpa using this)
 have hns:numsOf us.toList=ns:=hi.numsOf
 subst e
 refine sum_intListG R.hd (xs:=xs) ⟨_,ho,rfl,_,rfl⟩ fun h' tk t' hk=>?_
 rw [nums_intItems] at hns
 rw [preSum_eq,List.take_of_length_le (by simp),hns]
 exact kk _ _ _ hk (.int _ _)) h
theorem w_app {d:AV} {σ₁ σ₂:St} (hz:l.length≤2^23) (h:Φ .none (σ₁++(a,.lst (l++[d]))::σ₂)):WC Q n (.builtin "list.append") [.ref a,d] (σ₁++(a,.lst l)::σ₂) Φ:=fun A p vs G R I hv k=>by
 obtain ⟨u,v,rfl,hu,hv'⟩:=vl_2 hv
 obtain rfl:=v_ref hu
 obtain ⟨us,m,ho,hl,ow⟩:=cell_mid I
 refine append_at ho (fun h' hs e=>?_) (by rw [vl_size hl];exact sl hz)
 obtain ⟨I',x⟩:=upd_at (c':=.lst (l++[d])) p.s.toks I ow hs ⟨_,e⟩ ⟨_,_,e,by rw [Array.toList_push];exact vl_app (.cons hv' .nil) hl,ow⟩
 exact k _ ⟨p.W,_⟩ _ _ I' x .none h
theorem w_range {k:Int} (h:Φ (.rng 0 k) σ):WC Q n (.type "range") [.int k] σ Φ:=fun A p vs G R I hv kk=>by
 obtain ⟨u,rfl,hu⟩:=vl_1 hv
 obtain ⟨t,rfl⟩:=v_int hu
 refine call_range_1 ?_
 have x:Bh none p ⟨_,_⟩:=Ext.pushF I { cls:=.type "range",data:=.fields #[.int 0 p.s.toks,.int k t,.int 1 (p.s.toks+1)] } (p.s.toks+1+1)
 exact kk σ ⟨p.W.freeze p.s.heap.objs.size _,_⟩ _ _ (I.pushF rfl) x (.rng Wd.freeze_self) h
end
end
section
open Builtin Builtin.ObjectAttr
set_option tactic.hygienic false
noncomputable def Wd.addL (W:Wd) (ow:List Addr) (a:Addr):Wd:={ F:=W.F,own:=fun b=>if b∈ow then some a else W.own b }
theorem tgt_tup {t:Expr} (h:tgtOk true t=true):∃ es k p,t=.Tuple es k p:=by cases t<;>first|exact ⟨_,_,_,rfl⟩|exact ffE h|exact tfE h|exact noE h|cases h
noncomputable def enums:Nat→List AV→List AV
 | _,[]=>[]
 | i,d::l=>.tup [.int (i:Int),d]::enums (i+1) l
noncomputable def zips:List AV→List AV→List AV
 | x::xs,y::ys=>.tup [x,y]::zips xs ys
 | _,_=>[]
theorem enums_get {l:List AV} {a j:Nat} {d:AV} (h:(enums a l)[j]?=some d):∃ e,l[j]?=some e∧d=.tup [.int ((a+j:Nat):Int),e]:=by
 induction l generalizing a j with
 | nil=>first|exact ffE h|exact tfE h|exact noE h|cases h
 | cons x l ih=>cases j with
  | zero=>cases h;exact ⟨x,rfl,rfl⟩
  | succ j=>
   obtain ⟨e,h1,h2⟩:=ih (a:=a+1) (j:=j) h
   exact ⟨e,h1,Nat.succ_add_eq_add_succ a j▸h2⟩
theorem enums_length (l:List AV) (a:Nat):(enums a l).length=l.length:=by
 induction l generalizing a with
 | nil=>rfl
 | cons x l ih=>exact congrArg (·+1) (ih _)
theorem zips_get {l m:List AV} {j:Nat} {d:AV} (h:(zips l m)[j]?=some d):∃ e f,l[j]?=some e∧m[j]?=some f∧d=.tup [e,f]:=by
 induction l generalizing m j with
 | nil=>first|exact ffE h|exact tfE h|exact noE h|cases h
 | cons x l ih=>cases m with
  | nil=>first|exact ffE h|exact tfE h|exact noE h|cases h
  | cons y m=>cases j with
   | zero=>cases h;exact ⟨x,y,rfl,rfl,rfl⟩
   | succ j=>exact ih (m:=m) (j:=j) h
theorem zips_length (l m:List AV):(zips l m).length=min l.length m.length:=by
 induction l generalizing m with
 | nil=>exact (Nat.zero_min _).symm
 | cons x l ih=>cases m with
  | nil=>exact (Nat.min_zero _).symm
  | cons y m=>rw [zips,List.length_cons,List.length_cons,List.length_cons,ih,Nat.add_min_add_right]
noncomputable def irange (lo:Int) (n:Nat):List AV:=(List.range n).map fun (i:Nat)=>.int (lo+(i:Int))
section
variable {Q:Bt} {n:Nat} {σ σ':St} {W:Wd} {h:Heap} {a:Addr} {l:List AV} {Φ:AV→St→Prop} {p:Po} {A:Around} {tk:Bool}
theorem itr_new {h':Heap} {t:Nat} {fp ow:List Addr} {P Md:Nat→Value→Heap→Prop} {St:Nat→Heap→Prop} (I:Inv Q p.W σ p.s.heap)
  (hk:∀ b o,p.s.heap.get? b=some o→h'.get? b=some o) (hnew:∀ b∈ow,@LE.le Nat _ p.s.heap.objs.size b)
  (hw:∀ A:Around,A.handled=none→∀ tgt,tgtOk tk tgt=true→∃ wr':List Addr,(∀ b∈wr',b∈ow)∧KTurns Q.prog Q.w A tgt a fp wr' l.length P Md St)
  (hse:∀ A:Around,A.handled=none→∀ i (s:Shared) (Q':Value→Shared→Prop) (E:Value→Shared→Prop),St i s.heap→Q' (.ref a) s→wpAny (model Q.prog Q.w) A (pyIter (.ref a)) Q' E s)
  (hv:∀ i h,St i h→∀ b∈ow,∃ o,h.get? b=some o) (ha:a∈ow) (hst:St 0 h') (h2:∀ b∈fp,b∈ow∨(∃ o,p.W.F b=some o)) (h3:∀ j d,l[j]?=some d→∀ v h',P j v h'→ItV Q p.W.F h' tk v d):
  Inv Q (p.W.addL ow a) ((a,.itr tk l)::σ) h'∧Bh none p ⟨p.W.addL ow a,{ p.s with heap:=h',toks:=t }⟩:=by
 have old:∀ b,(∃ o,p.s.heap.get? b=some o)→b∉ow:=fun b ⟨o,g⟩ q=>absurd (Heap.lt_size g) (Nat.not_lt.mpr (hnew b q))
 have oo:∀ b,(∃ o,p.s.heap.get? b=some o)→(p.W.addL ow a).own b=p.W.own b:=fun b hb=>if_neg (old b hb)
 refine ⟨⟨fun b o e=>hk b o (I.frz b o e),fun b o e=>(oo b ⟨o,I.frz b o e⟩).trans (I.frzO b o e),fun b x e=>?_,fun p hp=>?_,?_,fun b o e=>⟨hk b o (I.base b o e).1,(oo b ⟨o,(I.base b o e).1⟩).trans (I.base b o e).2⟩⟩,
  ⟨FLe.refl _,fun b o e g=>⟨(oo b ⟨o,g⟩).trans e,id,⟨o,hk b o g⟩,fun _=>hk b o g⟩,rfl,rfl,rfl⟩⟩
 ·have e':(if b∈ow then some a else p.W.own b)=some x:=e
  by_cases q:b∈ow
  ·exact hv 0 h' hst b q
  ·rw [if_neg q] at e';exact (I.live b x e').imp fun o g=>hk b o g
 ·rcases List.mem_cons.mp hp with rfl|hp
  ·exact ⟨if_pos ha,fp,ow,l.length,P,Md,St,0,hw,hse,hv,ha,hst,Nat.zero_add _,fun b hb=>if_pos hb,fun b hb=>(h2 b hb).imp id fun ⟨o,q⟩=>⟨o,q,hk b o (I.frz b o q)⟩,fun j d e v h' p=>h3 j d e v h' (Nat.zero_add j▸p)⟩
  ·exact (I.cells p hp).keep (FLe.refl _) (fun b e=>(oo b (I.live b _ e)).trans e) (fun b o _ g=>hk b o g) fun b o e=>hk b o (I.frz b o e)
 ·rw [List.map_cons,List.nodup_cons]
  refine ⟨fun q=>?_,I.nd⟩
  obtain ⟨p,hp,e⟩:=List.mem_map.mp q
  exact old a (by rw [show a=p.1 from e.symm];exact I.live p.1 _ (I.cells p hp).owned) ha
theorem tgt_name {target:Expr} {it v:Value} {s:Shared} {Q':Unit→Shared→Prop} {E:Value→Shared→Prop} (h:tgtOk false target=true) (hq:Q' () s):wpAny (model Q.prog Q.w) A (letOwnedTupleGo target it v) Q' E s:=by
 cases target<;>first|exact ffE h|exact tfE h|exact noE h|(cases h;done)|exact wpAny_pure hq
noncomputable def itemsOk:Bool→List AV→Prop
 | false,_=>True
 | true,l=>∀ d∈l,∃ ds,d=.tup ds
theorem itv_of {F:FH} {v:Value} {d:AV} (ht:itemsOk tk l) (hm:d∈l) (hv:V Q F v d):ItV Q F h tk v d:=by
 cases tk with
 | false=>exact .val hv
 | true=>obtain ⟨ds,e⟩:=ht d hm;subst e;exact .frz hv
theorem vl_at {F:FH} {vs:Array Value} {j:Nat} {d:AV} {v:Value} (hl:VL Q F vs.toList l) (e:l[j]?=some d) (q:vs[j]?=some v):V Q F v d:=by
 obtain ⟨u,hu,hd⟩:=vl_get hl e
 rw [Array.getElem?_toList,q] at hu
 cases hu;exact hd
theorem le_self (n:Nat):∀ b∈[n],@LE.le Nat _ n b:=all1 (Nat.le_refl n) all0
theorem it_lst (ht:itemsOk tk l):IterOk Q σ (.lst l) tk l σ:=fun A p u G hh _ I hu k=>by
 obtain ⟨a,vs,m,rfl,e,hl⟩:=v_lst hu
 have hf:=I.frz _ _ e
 have hL:p.s.heap.IsList a vs:=⟨_,hf,rfl,_,rfl⟩
 have hne:a≠p.s.heap.objs.size:=Nat.ne_of_lt (Heap.lt_size hf)
 refine wpAny_pyIter_list hL ?_
 obtain ⟨I',x⟩:=itr_new (tk:=tk) (t:=p.s.toks) (l:=l) (a:=p.s.heap.objs.size) (fp:=[p.s.heap.objs.size,a]) (ow:=[p.s.heap.objs.size]) (P:=fun i v _=>vs[i]?=some v) (St:=fun i h=>h.IsListIter p.s.heap.objs.size a i∧h.IsList a vs) I
  (fun b o e=>Heap.get?_push_of_some { cls:=.type "list_iterator",data:=.fields #[.ref a,.int 0 0] } e) (le_self _)
  (fun A hA tgt _=>⟨[p.s.heap.objs.size],fun _ h=>h,vl_size hl▸KTurns.ofWalks (Walks.list hA p.s.heap.objs.size a hne vs) fun i v s Q' E st q=>letGo_listiter st.1 q⟩)
  (fun A hA i s Q' E st q=>wpAny_pyIter_listiter st.1 q)
  (fun i h st=>all1 (let ⟨o,g,_⟩:=st.1;⟨o,g⟩) all0) (.head _)
  ⟨⟨_,Heap.get?_push_size _ rfl,rfl,rfl⟩,hL.push _⟩ (all1 (.inl (.head _)) (all1 (.inr ⟨_,e⟩) all0)) (fun j d e v h' p=>itv_of ht (List.mem_of_getElem? e) (vl_at hl e p))
 exact k ⟨_,_⟩ _ x I'
theorem it_tup (ht:itemsOk tk l):IterOk Q σ (.tup l) tk l σ:=fun A p u G hh _ I hu k=>by
 obtain ⟨a,vs,m,rfl,e,hl⟩:=v_tup hu
 have hf:=I.frz _ _ e
 have hL:p.s.heap.IsTuple a vs:=⟨_,hf,rfl,_,rfl⟩
 have hne:a≠p.s.heap.objs.size:=Nat.ne_of_lt (Heap.lt_size hf)
 refine wpAny_pyIter_tuple hL ?_
 obtain ⟨I',x⟩:=itr_new (tk:=tk) (t:=p.s.toks) (l:=l) (a:=p.s.heap.objs.size) (fp:=[p.s.heap.objs.size,a]) (ow:=[p.s.heap.objs.size]) (P:=fun i v _=>vs[i]?=some v) (St:=fun i h=>h.IsTupleIter p.s.heap.objs.size a i∧h.IsTuple a vs) I
  (fun b o e=>Heap.get?_push_of_some { cls:=.type "tuple_iterator",data:=.fields #[.ref a,.int 0 0] } e) (le_self _)
  (fun A hA tgt _=>⟨[p.s.heap.objs.size],fun _ h=>h,vl_size hl▸KTurns.ofWalks (Walks.tuple hA p.s.heap.objs.size a hne vs) fun i v s Q' E st q=>letGo_tupleiter st.1 q⟩)
  (fun A hA i s Q' E st q=>(Walks.tuple (prog:=Q.prog) (w:=Q.w) hA _ a hne vs).self i s Q' E st q)
  (fun i h st=>all1 (let ⟨o,g,_⟩:=st.1;⟨o,g⟩) all0) (.head _)
  ⟨⟨_,Heap.get?_push_size _ rfl,rfl,rfl⟩,_,Heap.get?_push_of_some _ hf,rfl,_,rfl⟩ (all1 (.inl (.head _)) (all1 (.inr ⟨_,e⟩) all0)) (fun j d e v h' p=>itv_of ht (List.mem_of_getElem? e) (vl_at hl e p))
 exact k ⟨_,_⟩ _ x I'
theorem small_rng {lo hi:Int} (h1:-(2^40)≤lo) (h2:lo≤2^40) (h3:-(2^40)≤hi) (h4:hi≤2^40):Builtin.Range.small lo hi 1=true:=by
 unfold Builtin.Range.small Builtin.Range.rangeFitsLong
 rw [rangeSize_one]
 simp only [Bool.and_eq_true,Bool.or_eq_true,decide_eq_true_eq,beq_iff_eq]
 refine ⟨⟨⟨⟨⟨by lia,by lia⟩,⟨by lia,by lia⟩⟩,⟨by lia,by lia⟩⟩,?_⟩,?_⟩
 ·split<;>exact ⟨by lia,by lia⟩
 ·right
  rw [if_pos (by decide)]
  simp only [Bool.and_eq_true,decide_eq_true_eq]
  exact ⟨by lia,by lia⟩
theorem it_rng {hi:Nat} (h4:hi≤1000):IterOk Q σ (.rng 0 hi) false (irange 0 hi) σ:=fun A p u G hh _ I hu k=>by
 obtain ⟨a,t,u,v,rfl,e⟩:=v_rng hu
 refine wpAny_pyIter_range (t:=t) (u:=u) (v:=v) (I.frz _ _ e) (small_rng (by decide) (by decide) (by lia) (by lia)) ?_
 have hsz:Builtin.Range.rangeSize 0 hi 1=(hi:Int):=by rw [rangeSize_one];split<;>lia
 rw [hsz]
 have hlen:(irange 0 hi).length=hi:=by rw [irange,List.length_map,List.length_range]
 obtain ⟨I',x⟩:=itr_new (tk:=false) (t:=p.s.toks) (l:=irange 0 hi) (a:=p.s.heap.objs.size) (fp:=[p.s.heap.objs.size]) (ow:=[p.s.heap.objs.size]) (P:=fun i v _=>∃ t,v=.int (0+(i:Int)) t) (St:=fun i h=>IsRangeIter h p.s.heap.objs.size (0+(i:Nat)*1) ((hi:Int) - (i:Nat)) 1) I
  (h':=p.s.heap.push { cls:=.type "range_iterator",data:=.fields #[rawInt 0,rawInt (hi:Int),rawInt 1] })
  (fun b o e=>Heap.get?_push_of_some _ e) (le_self _)
  (fun A hA tgt ht=>⟨[p.s.heap.objs.size],fun _ h=>h,by rw [hlen];exact KTurns.ofWalks (LCg.range_walks hA 0 hi) fun i v s Q' E st q=>tgt_name ht q⟩)
  (fun A hA i s Q' E st q=>(LCg.range_walks (prog:=Q.prog) (w:=Q.w) hA 0 hi).self i s Q' E st q)
  (fun i h st=>all1 ⟨_,st⟩ all0) (.head _)
  (by
   show IsRangeIter _ _ (0+((0:Nat):Int)*1) ((hi:Int) - ((0:Nat):Int)) 1
   rw [show ((hi:Int) - ((0:Nat):Int))=(hi:Int) from Int.sub_zero _]
   exact Heap.get?_push_size _ rfl) (all1 (.inl (.head _)) all0) (fun j d e v h' p=>by
   obtain ⟨t,rfl⟩:=p
   unfold irange at e
   rw [List.getElem?_map] at e
   obtain ⟨i,hi,rfl⟩:=Option.map_eq_some_iff.mp e
   obtain ⟨_,rfl⟩:=List.getElem?_eq_some_iff.mp hi
   rw [List.getElem_range]
   exact .val (.int _ _))
 exact k ⟨_,_⟩ _ x I'
theorem it_self (hc:TakeC σ a (.itr tk l) σ'):IterOk Q σ (.ref a) tk l σ':=fun A p u G hh _ I hu k=>by
 obtain rfl:=v_ref hu
 have I':=I.perm hc.perm
 obtain ⟨o,fp,wr,m,P,Md,St,i,hw,hse,hv,ha,hst,hl,h1,h2,h3⟩:=I'.cells (a,.itr tk l) (.head _)
 exact hse A hh i p.s _ _ hst (k p a (Bh.refl _ p) I')
noncomputable def enP (item:Nat→Value→Prop) (i:Nat) (v:Value) (h:Heap):Prop:=∃ T vals,v=.ref T∧(∃ t x,item i x∧vals=#[.int i t,x])∧h.IsTuple T vals
theorem enV {F:FH} {j:Nat} {d:AV} {v:Value} {item:Nat→Value→Prop} (e:(enums 0 l)[j]?=some d) (p:enP item j v h) (hi:∀ x y,item j x→l[j]?=some y→V Q F x y):ItV Q F h true v d:=by
 obtain ⟨y,hy,rfl⟩:=enums_get e
 obtain ⟨T,vals,rfl,⟨t,x,hx,rfl⟩,hT⟩:=p
 rw [Nat.zero_add]
 exact .tup hT (.cons (.int _ _) (.cons (hi x y hx hy) .nil))
theorem new2 (z:Nat):∀ b∈[z+1,z],@LE.le Nat _ z b:=all1 (Nat.le_succ z) (all1 (Nat.le_refl z) all0)
theorem w_enum (h:∀ a,Φ (.ref a) ((a,.itr true (enums 0 l))::σ)):WC Q n (.type "enumerate") [.lst l] σ Φ:=fun A p vs G R I hv k=>by
 obtain ⟨u,rfl,hu⟩:=vl_1 hv
 obtain ⟨a,vs,m,rfl,e,hl⟩:=v_lst hu
 have hf:=I.frz _ _ e
 have hL:p.s.heap.IsList a vs:=⟨_,hf,rfl,_,rfl⟩
 have hlt:=Heap.lt_size hf
 refine call_enumerate_list hL fun h' hE hI hsz hk=>?_
 obtain ⟨I',x⟩:=itr_new (tk:=true) (t:=p.s.toks) (l:=enums 0 l) (a:=p.s.heap.objs.size+1) (fp:=[p.s.heap.objs.size+1,p.s.heap.objs.size,a]) (ow:=[p.s.heap.objs.size+1,p.s.heap.objs.size]) (P:=enP fun i x=>vs[i]?=some x)
  (St:=fun i h=>(∃ old,IsEnum h (p.s.heap.objs.size+1) p.s.heap.objs.size i old)∧h.IsListIter p.s.heap.objs.size a i∧h.IsList a vs) I hk (new2 _)
  (fun A hA tgt ht=>by
   obtain ⟨elts,k,pos,rfl⟩:=tgt_tup ht
   exact ⟨_,fun _ h=>h,((vl_size hl).trans (enums_length l 0).symm)▸KTurns.ofWalksU (elts:=elts) (k:=k) (pos:=pos) (WalksT.enumerate hA (p.s.heap.objs.size+1) p.s.heap.objs.size a (Nat.succ_ne_self _) (ktu_ne 1 hlt) (Nat.ne_of_lt hlt) vs).toU⟩)
  (fun A hA i s Q' E st q=>st.1.elim fun old he=>wpAny_pyIter_enum he q)
  (fun i h st=>all1 (st.1.elim fun old he=>⟨_,he⟩) (all1 (let ⟨o,g,_⟩:=st.2.1;⟨o,g⟩) all0)) (.head _) ⟨⟨.none,hE⟩,hI,hL.at fun o e=>hk a o e⟩
  (all1 (.inl (.head _)) (all1 (.inl (.tail _ (.head _))) (all1 (.inr ⟨_,e⟩) all0))) (fun j d e v h' p=>enV e p fun x y hx hy=>vl_at hl hy hx)
 exact k _ ⟨_,_⟩ _ _ I' x (.ref _) (h _)
end
end
section
open Builtin Builtin.ObjectAttr
section
variable {prog:Program} {w:World} {A:Around} {E:Value→Shared→Prop} {s:Shared} {b:Array UInt8} {t:Tok}
theorem nextOf_bytes_item {it:Addr} {i:Nat} {c:UInt8} {Q:Value→Shared→Prop} (hit:KBw.IsBytesIter s.heap it b t i) (hx:b[i]?=some c)
  (hQ:∀ h',KBw.IsBytesIter h' it b t (i+1)→Heap.SameBut it s.heap h'→Q (.int (c.toNat:Int) s.toks) { s with heap:=h',toks:=s.toks+1 }):wpAny (model prog w) A (Builtin.SmallTypes.nextOf (.ref it)) Q E s:=by
 have hit':=hit
 obtain ⟨o,ho,hc,hd⟩:=hit'
 unfold Builtin.SmallTypes.nextOf
 refine wpAny_bind (wpAny_callSpecial?_slot (name:=PySem.Str.ofString "__next__") (KBw.iter_typeIs hit) KBw.slot_next
  (wpAny_call_entry KBw.slot_next (KBw.iter_typeIs hit) KBw.entry_next ?_ (KBw.args_next _)))
 show wpAny _ _ (field (.ref it) 0>>=_) _ _ s
 refine wpAny_bind (wpAny_field ho hd (x:=.bytes b t) rfl ?_)
 show wpAny _ _ (if (Value.bytes b t==Value.none)=true then _ else _) _ _ s
 rw [if_neg (show ¬ ((Value.bytes b t==Value.none)=true) from Bool.false_ne_true)]
 show wpAny _ _ (field (.ref it) 1>>=_) _ _ s
 refine wpAny_bind (wpAny_field ho hd (x:=.int i 0) rfl ?_)
 refine wpAny_bind (wpAny_of_eq (a:=b) rfl ?_)
 simp only [Int.toNat_natCast,hx]
 refine wpAny_bind (wpAny_setField ho hd (by simp) (wpAny_bind (wpAny_mkInt (wpAny_pure ⟨_,rfl,wpAny_pure (hQ _ ?_ (Heap.SameBut.update ..))⟩))))
 exact ⟨_,Heap.get?_update_self _ ho (Obj.isFreed_of_fields (Obj.data_mapFields hd _)),(Obj.cls_mapFields ..).trans hc,by
  rw [Obj.data_mapFields hd];simp [rawInt]⟩
theorem nextOf_bytes_end {it:Addr} {i:Nat} {Q:Value→Shared→Prop} (hh:A.handled=none) (hit:KBw.IsBytesIter s.heap it b t i) (hx:b[i]?=none)
  (hE:∀ h' e,Heap.ExtBut it s.heap h'→(∃ o,h'.get? e=some o∧o.cls=.type "StopIteration")→E (.ref e) { s with heap:=h' }):wpAny (model prog w) A (Builtin.SmallTypes.nextOf (.ref it)) Q E s:=by
 have hit':=hit
 obtain ⟨o,ho,hc,hd⟩:=hit'
 unfold Builtin.SmallTypes.nextOf
 refine wpAny_bind (wpAny_callSpecial?_slot (name:=PySem.Str.ofString "__next__") (KBw.iter_typeIs hit) KBw.slot_next
  (wpAny_call_entry KBw.slot_next (KBw.iter_typeIs hit) KBw.entry_next ?_ (KBw.args_next _)))
 show wpAny _ _ (field (.ref it) 0>>=_) _ _ s
 refine wpAny_bind (wpAny_field ho hd (x:=.bytes b t) rfl ?_)
 show wpAny _ _ (if (Value.bytes b t==Value.none)=true then _ else _) _ _ s
 rw [if_neg (show ¬ ((Value.bytes b t==Value.none)=true) from Bool.false_ne_true)]
 show wpAny _ _ (field (.ref it) 1>>=_) _ _ s
 refine wpAny_bind (wpAny_field ho hd (x:=.int i 0) rfl ?_)
 refine wpAny_bind (wpAny_of_eq (a:=b) rfl ?_)
 simp only [Int.toNat_natCast,hx]
 refine wpAny_bind (wpAny_rule (wpAny_bind (wpAny_setField ho hd (by simp) ?_)))
 show wpAny _ _ (newExc (.type "StopIteration") []>>=_) _ _ _
 refine wpAny_bind ?_
 simp only [newExc,newTuple]
 refine wpAny_bind (wpAny_newObj_type ?_ (by size_fits))
 refine wpAny_bind (m:=firstArgMember _ _) (wpAny_of_eq (a:=Value.none) (by first|rfl|(simp only [firstArgMember];rfl)) ?_)
 refine wpAny_newObj_type ?_ (by size_fits)
 simp only [raiseNew]
 refine wpAny_bind (wpAny_handled ?_)
 first|rw [show A.in1.handled=none from hh]|rw [hh]
 refine wpAny_bind (wpAny_pure (wpAny_throw ?_))
 exact hE _ _ (((Heap.SameBut.update ..).extBut.push _).push _) ⟨_,Heap.get?_push_size _ rfl,rfl⟩
end
theorem draws_bytes {prog:Program} {w:World} {A:Around} (hh:A.handled=none) (it:Addr) (b:Array UInt8) (t:Tok):
  Draws prog w A it [it] b.size (fun i v=>∃ c u,b[i]?=some c∧v=.int (c.toNat:Int) u) (fun i h=>KBw.IsBytesIter h it b t i) where
 live:=fun _ _ st=>let ⟨o,ho,_⟩:=st;⟨o,ho⟩
 frame:=fun _ _ _ st hk=>let ⟨o,ho,r⟩:=st;⟨o,hk it (by simp) o ho,r⟩
 item:=fun i s Q E hi st hQ=>by
  refine nextOf_bytes_item st (c:=b[i]) (by simp [hi]) fun h' hit' hs'=>?_
  exact hQ _ h' (s.toks+1) ⟨_,_,by simp [hi],rfl⟩ hit' hs'
 done:=fun s Q E st hE=>nextOf_bytes_end hh st (by simp) hE
set_option maxHeartbeats 1000000 in
theorem meets_enumerate_newB (b:Array UInt8) (t:Tok):
  Meets (Builtin.«enumerate.__new__» ⟨[.type "enumerate",.bytes b t],[]⟩) (fun _ R s=>
   R (.ok (.ret (.ref (s.heap.push { cls:=.type "bytes_iterator",data:=.fields #[.bytes b t,.int 0 0] }).objs.size)))
    { s with heap:=(s.heap.push { cls:=.type "bytes_iterator",data:=.fields #[.bytes b t,.int 0 0] }).push { cls:=.type "enumerate",data:=.fields #[.none,.bool false,.ref s.heap.objs.size,rawInt 0,.none,.none] } }):=
 .of_wp fun prog w A R s h=>by
  obtain ⟨hp,g,d,tk,os⟩:=s
  have hsub:=sub_enumerate
  wp_walk
  refine wpAny_stack_any fun st=>wpAny_pure ?_
  split
  ·rename_i c _ _ _ _ _
   cases (c==Value.type "enumerate")
   ·wp_walk using KBw.pyIter_bytes
    exact ⟨_,rfl,h⟩
   ·wp_walk using KBw.pyIter_bytes
    exact ⟨_,rfl,h⟩
  ·wp_walk using KBw.pyIter_bytes
   exact ⟨_,rfl,h⟩
theorem call_enumerate_bytes {prog:Program} {w:World} {A:Around} {E:Value→Shared→Prop} {s:Shared} {b:Array UInt8} {t:Tok} {Q:Value→Shared→Prop}
  (h:∀ h',IsEnum h' (s.heap.objs.size+1) s.heap.objs.size 0 .none→KBw.IsBytesIter h' s.heap.objs.size b t 0→h'.objs.size=s.heap.objs.size+2 →
   (∀ b o,s.heap.get? b=some o→h'.get? b=some o)→Q (.ref (s.heap.objs.size+1)) { s with heap:=h' }):
  wpAny (model prog w) A (call (.type "enumerate") [.bytes b t]) Q E s:=by
 refine callType_new PySem.F.called_enumerate (by decide) (PySem.F.typeCall_enumerate_1 _) (PySem.F.newCall_enumerate_1 _) (fun obj=>PySem.F.args_object_init_2 obj _) PySem.F.entry_enumerate_new
  (meets_enumerate_newB b t) ?_
 have hz:(s.heap.push { cls:=.type "bytes_iterator",data:=.fields #[.bytes b t,.int 0 0] }).objs.size=s.heap.objs.size+1:=Heap.size_push ..
 show _∧_
 rw [hz]
 have he:IsEnum ((s.heap.push { cls:=.type "bytes_iterator",data:=.fields #[.bytes b t,.int 0 0] }).push
   { cls:=.type "enumerate",data:=.fields #[.none,.bool false,.ref s.heap.objs.size,rawInt 0,.none,.none] }) (s.heap.objs.size+1) s.heap.objs.size 0 .none:=by
  have:=Heap.get?_push_size (s.heap.push { cls:=.type "bytes_iterator",data:=.fields #[.bytes b t,.int 0 0] })
   (o:={ cls:=.type "enumerate",data:=.fields #[.none,.bool false,.ref s.heap.objs.size,rawInt 0,.none,.none] }) rfl
  rw [hz] at this;exact this
 refine ⟨⟨_,he,rfl⟩,h _ he ⟨_,Heap.get?_push_of_some _ (Heap.get?_push_size _ rfl),rfl,rfl⟩ (by rw [Heap.size_push,hz]) fun b o y=>Heap.get?_push_of_some _ (Heap.get?_push_of_some _ y)⟩
noncomputable def octs (b:Array UInt8):List AV:=b.toList.map fun c=>.int (c.toNat:Int)
section
variable {Q:Bt} {n:Nat} {env:Env} {σ σ':St} {ρ:Rho} {l l':List AV} {Φ:AV→St→Prop} {K:AV→Rho→St→Prop}
theorem w_enumB {b:Array UInt8} (h:∀ a,Φ (.ref a) ((a,.itr true (enums 0 (octs b)))::σ)):WC Q n (.type "enumerate") [.byt b] σ Φ:=fun A p vs G R I hv k=>by
 obtain ⟨u,rfl,hu⟩:=vl_1 hv
 obtain ⟨t,rfl⟩:=v_byt hu
 refine call_enumerate_bytes fun h' hE hI hsz hk=>?_
 obtain ⟨I',x⟩:=itr_new (tk:=true) (t:=p.s.toks) (l:=enums 0 (octs b)) (a:=p.s.heap.objs.size+1) (fp:=[p.s.heap.objs.size+1,p.s.heap.objs.size]) (ow:=[p.s.heap.objs.size+1,p.s.heap.objs.size]) (P:=enP fun i x=>∃ c u,b[i]?=some c∧x=.int (c.toNat:Int) u)
  (St:=fun i h=>(∃ old,IsEnum h (p.s.heap.objs.size+1) p.s.heap.objs.size i old)∧KBw.IsBytesIter h p.s.heap.objs.size b t i) I hk (new2 _)
  (fun A hA tgt ht=>by
   obtain ⟨elts,k,pos,rfl⟩:=tgt_tup ht
   exact ⟨_,fun _ h=>h,(show b.size=(enums 0 (octs b)).length by rw [enums_length,octs,List.length_map,Array.length_toList])▸KTurns.ofWalksU (elts:=elts) (k:=k) (pos:=pos) (WalksT.enumerateD (draws_bytes (prog:=Q.prog) (w:=Q.w) (A:=A.in1) hA p.s.heap.objs.size b t) (p.s.heap.objs.size+1) (Nat.succ_ne_self _) (fun q=>Nat.succ_ne_self _ (List.mem_singleton.mp q)) (.head _)).toU⟩)
  (fun A hA i s Q' E st q=>st.1.elim fun old he=>wpAny_pyIter_enum he q)
  (fun i h st=>all1 (st.1.elim fun old he=>⟨_,he⟩) (all1 (let ⟨o,g,_⟩:=st.2;⟨o,g⟩) all0)) (.head _) ⟨⟨.none,hE⟩,hI⟩
  (all1 (.inl (.head _)) (all1 (.inl (.tail _ (.head _))) all0)) (fun j d e v h' q=>enV e q fun x y hx hy=>by
   obtain ⟨c,u,hc,rfl⟩:=hx
   rw [octs,List.getElem?_map,Array.getElem?_toList,hc] at hy
   cases hy
   exact .int _ _)
 exact k _ ⟨_,_⟩ _ _ I' x (.ref _) (h _)
theorem w_zip (h:∀ a,Φ (.ref a) ((a,.itr true (zips l l'))::σ)):WC Q n (.type "zip") [.lst l,.lst l'] σ Φ:=fun A p vs G R I hv k=>by
 obtain ⟨u,u',rfl,hu,hu'⟩:=vl_2 hv
 obtain ⟨a,vs,m,rfl,e,hl⟩:=v_lst hu
 obtain ⟨a',vs',m',rfl,e',hl'⟩:=v_lst hu'
 have hf:=I.frz _ _ e
 have hf':=I.frz _ _ e'
 have hL:p.s.heap.IsList a vs:=⟨_,hf,rfl,_,rfl⟩
 have hL':p.s.heap.IsList a' vs':=⟨_,hf',rfl,_,rfl⟩
 have D:ZipApart (p.s.heap.objs.size+4) (p.s.heap.objs.size+2) (p.s.heap.objs.size+3) p.s.heap.objs.size (p.s.heap.objs.size+1) a a':=ktu_apart _ _ _ (Heap.lt_size hf) (Heap.lt_size hf')
 refine call_zip_2 hL hL' fun h' hz hTI hTO hi1 hi2 hsz hk=>?_
 obtain ⟨I',x⟩:=itr_new (tk:=true) (t:=p.s.toks) (l:=zips l l') (a:=p.s.heap.objs.size+4) (fp:=[p.s.heap.objs.size+4,p.s.heap.objs.size+2,p.s.heap.objs.size+3,p.s.heap.objs.size,p.s.heap.objs.size+1,a,a']) (ow:=[p.s.heap.objs.size+4,p.s.heap.objs.size+2,p.s.heap.objs.size+3,p.s.heap.objs.size,p.s.heap.objs.size+1])
  (P:=fun i v h=>∃ T vals,v=.ref T∧(∃ x y,vs[i]?=some x∧vs'[i]?=some y∧vals=#[x,y])∧h.IsTuple T vals)
  (St:=fun i h=>IsZip h (p.s.heap.objs.size+4) (p.s.heap.objs.size+2) (p.s.heap.objs.size+3) .none∧IsPair h (p.s.heap.objs.size+2) (.ref p.s.heap.objs.size) (.ref (p.s.heap.objs.size+1))∧(∃ a b,IsPair h (p.s.heap.objs.size+3) a b)∧h.IsListIter p.s.heap.objs.size a i∧h.IsListIter (p.s.heap.objs.size+1) a' i∧h.IsList a vs∧h.IsList a' vs') I hk
  (all1 (Nat.le_add_right _ _) (all1 (Nat.le_add_right _ _) (all1 (Nat.le_add_right _ _) (all1 (Nat.le_refl _) (all1 (Nat.le_add_right _ _) all0)))))
  (fun A hA tgt ht=>by
   obtain ⟨elts,k,pos,rfl⟩:=tgt_tup ht
   exact ⟨_,all1 (.head _) (all1 (.tail _ (.tail _ (.head _))) (all1 (.tail _ (.tail _ (.tail _ (.head _)))) (all1 (.tail _ (.tail _ (.tail _ (.tail _ (.head _))))) all0))),(show min vs.size vs'.size=(zips l l').length by rw [zips_length,vl_size hl,vl_size hl'])▸KTurns.ofWalksU (elts:=elts) (k:=k) (pos:=pos) (WalksT.zip2 hA _ _ _ _ _ _ _ D vs vs').toU⟩)
  (fun A hA i s Q' E st q=>wpAny_pyIter_zip st.1 q)
  (fun i h st=>all1 ⟨_,st.1⟩ (all1 ⟨_,st.2.1⟩ (all1 (let ⟨c,d,o⟩:=st.2.2.1;⟨_,o⟩) (all1 (let ⟨o,g,_⟩:=st.2.2.2.1;⟨o,g⟩) (all1 (let ⟨o,g,_⟩:=st.2.2.2.2.1;⟨o,g⟩) all0))))) (.head _)
  ⟨hz,hTI,⟨_,_,hTO⟩,hi1,hi2,hL.at fun o e=>hk a o e,hL'.at fun o e=>hk a' o e⟩
  (all1 (.inl (.head _)) (all1 (.inl (.tail _ (.head _))) (all1 (.inl (.tail _ (.tail _ (.head _)))) (all1 (.inl (.tail _ (.tail _ (.tail _ (.head _))))) (all1 (.inl (.tail _ (.tail _ (.tail _ (.tail _ (.head _)))))) (all1 (.inr ⟨_,e⟩) (all1 (.inr ⟨_,e'⟩) all0))))))) (fun j d e v h' q=>by
   obtain ⟨y,z,hy,hz,rfl⟩:=zips_get e
   obtain ⟨T,vals,rfl,⟨x,x',hx,hx',rfl⟩,hT⟩:=q
   exact .tup hT (.cons (vl_at hl hy hx) (.cons (vl_at hl' hz hx') .nil)))
 exact k _ ⟨_,_⟩ _ _ I' x (.ref _) (h _)
theorem e_sliceTo {value upper:Expr} {p pos:Pos} (h:WE Q n env value ρ σ fun o ρ σ=>WE Q n env upper ρ σ fun i ρ σ=>∃ l k,i=.int k∧0≤k∧(o=.lst l∨∃ a,o=.ref a∧(a,Cell.lst l)∈σ)∧l.length≤2^23∧∀ D,K (.ref D) ρ ((D,.lst (l.take k.toNat))::σ)):
  WE Q n env (.Subscript value (.Slice none (some upper) none p) pos) ρ σ K:=fun A q G R a kk=>by
 refine Subscript_ (h A q _ R a fun ρ₁ σ₁ q₁ u o a₁ x₁ r₁ h₁=>wpAny_Slice (wpAny_pure (h₁ A q₁ _ R a₁ fun ρ₂ σ₂ q₂ v i a₂ x₂ r₂ h₂=>wpAny_pure ?_)))
 obtain ⟨l,k,rfl,h0,ho,hz,hΦ⟩:=h₂
 obtain ⟨t,rfl⟩:=v_int r₂
 have hu:∃ a vs m,u=.ref a∧q₂.s.heap.get? a=some (PySem.W.listOf vs m)∧VL Q q₂.W.F vs.toList l:=by
  rcases ho with rfl|⟨a,rfl,hc⟩
  ·obtain ⟨a,vs,m,e0,e,hl⟩:=v_lst (x₂.V r₁);exact ⟨a,vs,m,e0,a₂.I.frz _ _ e,hl⟩
  ·obtain ⟨vs,m,e,hl,_⟩:=a₂.I.cells _ hc
   exact ⟨_,_,_,v_ref r₁,e,hl⟩
 obtain ⟨a,vs,m,rfl,e,hl⟩:=hu
 have hk:∀ b o,q₂.s.heap.get? b=some o→(q₂.s.heap.push { cls:=.type "slice",data:=.fields #[.none,.int k t,.none] }).get? b=some o:=fun b o e=>Heap.get?_push_of_some _ e
 have e':=hk _ _ e
 have x₃:Bh none q₂ ⟨q₂.W,{ q₂.s with heap:=q₂.s.heap.push { cls:=.type "slice",data:=.fields #[.none,.int k t,.none] } }⟩:=Ext.keeps hk rfl rfl rfl
 have a₃:=a₂.ext x₃ (a₂.I.keeps hk)
 refine tail_any (s:={ q₂.s with heap:=q₂.s.heap.push { cls:=.type "slice",data:=.fields #[.none,.int k t,.none] } }) (T:="list") ⟨_,e',rfl⟩ slot_list_getitem.lookup (ops:=[.ref q₂.s.heap.objs.size,.ref a])
  (wpAny_getItem_list_slice (s:={ q₂.s with heap:=q₂.s.heap.push { cls:=.type "slice",data:=.fields #[.none,.int k t,.none] } }) ⟨_,e',rfl,_,rfl⟩ (Heap.IsSliceOf.new ..) .none (.int k t) .none (by simp) ?_ (by rw [vl_size hl];exact sl hz)) rfl
 have hpick:(slicePick vs none (some k) none).toList=vs.toList.take k.toNat:=by
  obtain ⟨j,rfl⟩:=Int.eq_ofNat_of_zero_le h0
  rw [slicePick_upto' vs j];simp
 have I₄:=a₃.I.pushC (o:={ cls:=.type "list",data:=.seq (slicePick vs none (some k) none) }) (c:=.lst (l.take k.toNat)) rfl ⟨_,_,Heap.get?_push_size _ rfl,by rw [hpick];exact vl_take _ hl,Wd.add_self⟩
 have x₄:Bh none ⟨q₂.W,{ q₂.s with heap:=q₂.s.heap.push { cls:=.type "slice",data:=.fields #[.none,.int k t,.none] } }⟩ ⟨_,_⟩:=Ext.pushC _ _ { cls:=.type "list",data:=.seq (slicePick vs none (some k) none) } q₂.s.toks
 exact kk ρ₂ _ ⟨_,_⟩ _ _ (a₃.ext x₄ I₄) ((x₁.trans x₂).trans (x₃.trans x₄).wide) (.ref _) (hΦ _)
theorem e_sliceT {value lower:Expr} {p pos:Pos} (h:WE Q n env value ρ σ fun o ρ σ=>WE Q n env lower ρ σ fun i ρ σ=>∃ l k,i=.int k∧1≤k∧o=.tup l∧k≤l.length∧l.length≤1000∧K (.tup (l.drop k.toNat)) ρ σ):
  WE Q n env (.Subscript value (.Slice (some lower) none none p) pos) ρ σ K:=fun A q G R a kk=>by
 refine Subscript_ (h A q _ R a fun ρ₁ σ₁ q₁ u o a₁ x₁ r₁ h₁=>wpAny_Slice (h₁ A q₁ _ R a₁ fun ρ₂ σ₂ q₂ v i a₂ x₂ r₂ h₂=>wpAny_pure (wpAny_pure ?_)))
 obtain ⟨l,k,rfl,h1,rfl,hk',hz,hΦ⟩:=h₂
 obtain ⟨j,rfl⟩:=Int.eq_ofNat_of_zero_le (Int.le_trans (by decide) h1)
 obtain ⟨t,rfl⟩:=v_int r₂
 obtain ⟨a,vs,m,rfl,e,hl⟩:=v_tup (x₂.V r₁)
 have hk:∀ b o,q₂.s.heap.get? b=some o→(q₂.s.heap.push { cls:=.type "slice",data:=.fields #[.int j t,.none,.none] }).get? b=some o:=fun b o e=>Heap.get?_push_of_some _ e
 have e':=hk _ _ (a₂.I.frz _ _ e)
 have x₃:Bh none q₂ ⟨q₂.W,{ q₂.s with heap:=q₂.s.heap.push { cls:=.type "slice",data:=.fields #[.int j t,.none,.none] } }⟩:=Ext.keeps hk rfl rfl rfl
 have a₃:=a₂.ext x₃ (a₂.I.keeps hk)
 refine tail_any (s:={ q₂.s with heap:=q₂.s.heap.push { cls:=.type "slice",data:=.fields #[.int j t,.none,.none] } }) (T:="tuple") ⟨_,e',rfl⟩ slot_tuple_getitem.lookup (ops:=[.ref q₂.s.heap.objs.size,.ref a])
  (getItem_tuple_from (s:={ q₂.s with heap:=q₂.s.heap.push { cls:=.type "slice",data:=.fields #[.int j t,.none,.none] } }) ⟨_,e',rfl,_,rfl⟩ (Heap.IsSliceOf.new ..) (Int.ofNat_le.mp h1) (by rw [vl_size hl];exact Int.ofNat_le.mp hk') ?_ (by rw [vl_size hl];exact sl3 hz)) rfl
 have x₄:Bh none ⟨q₂.W,{ q₂.s with heap:=q₂.s.heap.push { cls:=.type "slice",data:=.fields #[.int j t,.none,.none] } }⟩ ⟨_,_⟩:=Ext.pushF a₃.I { cls:=.type "tuple",data:=.seq (vs.toList.drop j).toArray } q₂.s.toks
 exact kk ρ₂ _ ⟨_,_⟩ _ _ (a₃.ext x₄ (a₃.I.pushF rfl)) ((x₁.trans x₂).trans (x₃.trans x₄).wide) (.tup Wd.freeze_self ((vl_drop j hl).mono (Wd.freeze_le a₃.I.F_none))) hΦ
theorem e_sliceS {value lower:Expr} {p pos:Pos} (h:WE Q n env value ρ σ fun o ρ σ=>WE Q n env lower ρ σ fun i ρ σ=>∃ x k,i=.int k∧o=.str x∧x.length≤1000∧K (.str (Txt.slice x (some k) none)) ρ σ):
  WE Q n env (.Subscript value (.Slice (some lower) none none p) pos) ρ σ K:=fun A q G R a kk=>by
 refine Subscript_ (h A q _ R a fun ρ₁ σ₁ q₁ u o a₁ x₁ r₁ h₁=>wpAny_Slice (h₁ A q₁ _ R a₁ fun ρ₂ σ₂ q₂ v i a₂ x₂ r₂ h₂=>wpAny_pure (wpAny_pure ?_)))
 obtain ⟨x,k,rfl,rfl,hz,hΦ⟩:=h₂
 obtain ⟨t,rfl⟩:=v_int r₂
 obtain ⟨tx,rfl⟩:=v_str r₁
 have hk:∀ b o,q₂.s.heap.get? b=some o→(q₂.s.heap.push { cls:=.type "slice",data:=.fields #[.int k t,.none,.none] }).get? b=some o:=fun b o e=>Heap.get?_push_of_some _ e
 refine tail_any (s:={ q₂.s with heap:=q₂.s.heap.push { cls:=.type "slice",data:=.fields #[.int k t,.none,.none] } }) (T:="str") (typeIs_str _ _ _) slot_str_getitem.lookup (ops:=[.ref q₂.s.heap.objs.size,.str x tx])
  (wpAny_getItem_str_slice (s:={ q₂.s with heap:=q₂.s.heap.push { cls:=.type "slice",data:=.fields #[.int k t,.none,.none] } }) (l:=some (k,t)) (u:=none) (st:=none) ⟨_,Heap.get?_push_size _ rfl,rfl,rfl⟩ rfl
  (PySem.post_val_or_str ⟨Nat.le_trans (Txt.slice_le x _ _) (sl3 hz),fun t' tk=>?_⟩)) rfl
 have x₃:Bh none q₂ ⟨q₂.W,{ q₂.s with heap:=q₂.s.heap.push { cls:=.type "slice",data:=.fields #[.int k t,.none,.none] },toks:=tk }⟩:=Ext.keeps hk rfl rfl rfl
 exact kk ρ₂ _ ⟨_,_⟩ _ _ (a₂.ext x₃ (a₂.I.keeps hk)) ((x₁.trans x₂).trans x₃.wide) (.str _ _) hΦ
end
end
section
open Builtin Builtin.ObjectAttr
noncomputable def Wd.thaw (W:Wd) (a:Addr) (F:FH):Wd:={ F:=fun b=>(F b).or (W.F b),own:=(W.drop a).own }
noncomputable def frz:Cell→Option AV
 | .inst k fs=>some (.inst k fs)
 | .lst l=>some (.lst l)
 | _=>none
section
variable {Q:Bt} {n:Nat} {env:Env} {σ σ':St} {ρ:Rho} {p q:Po} {W:Wd} {h:Heap} {a:Addr} {c:Cell} {F:FH}
theorem thaw_none (hF:∀ b o,F b=some o→W.own b=some a∧h.get? b=some o) {b:Addr} (e:W.own b=none):(W.thaw a F).F b=W.F b:=by
 show (F b).or (W.F b)=W.F b
 cases q:F b with
 | none=>rfl
 | some o=>exact nomatch e.symm.trans (hF b o q).1
theorem Inv.thaw (I:Inv Q W ((a,c)::σ) h) (hF:∀ b o,F b=some o→W.own b=some a∧h.get? b=some o):Inv Q (W.thaw a F) σ h:=by
 have I':=I.drop
 have hle:FLe W.F (W.thaw a F).F:=fun b o e=>(thaw_none hF (I.frzO b o e)).trans e
 have or_:∀ b o,(W.thaw a F).F b=some o→F b=some o∨W.F b=some o:=fun b o e=>by
  cases q:F b with
  | none=>exact .inr ((show ((F b).or (W.F b))=W.F b by rw [q];rfl).symm.trans e)
  | some o'=>exact .inl ((show ((F b).or (W.F b))=some o' by rw [q];rfl).symm.trans e)
 exact ⟨fun b o e=>(or_ b o e).elim (fun q=>(hF b o q).2) (I.frz b o),fun b o e=>(or_ b o e).elim (fun q=>Wd.drop_own (hF b o q).1) (I'.frzO b o),I'.live,
  fun p hp=>(I'.cells p hp).keep hle (fun _ e=>e) (fun _ _ _ e=>e) I.frz,I'.nd,I'.base⟩
theorem Bh.thaw {X:Option Addr} (x:Bh X p q) (hF:∀ b o,F b=some o→q.W.own b=some a∧q.s.heap.get? b=some o) (hO:∀ b o,q.W.F b=some o→q.W.own b=none):Bh X p ⟨q.W.thaw a F,q.s⟩:=
 ⟨x.F.trans fun b o e=>(thaw_none hF (hO b o e)).trans e,fun b o e g=>let ⟨u1,u2,u3,u4⟩:=x.un b o e g;⟨Wd.drop_none u1,fun f=>(thaw_none hF u1).trans (u2 f),u3,u4⟩,x.gens,x.drawn,x.os⟩
theorem thaw_F {b:Addr} {o:Obj} (e:F b=some o):(W.thaw a F).F b=some o:=by
 show (F b).or (W.F b)=some o
 rw [e];rfl
theorem freeze {d:AV} (I:Inv Q p.W σ p.s.heap) (hc:TakeC σ a c σ') (hf:frz c=some d):∃ W',Bh none p ⟨W',p.s⟩∧Inv Q W' σ' p.s.heap∧V Q W'.F (.ref a) d:=by
 have I:=I.perm hc.perm
 have hcell:=I.cells (a,c) (.head _)
 have fin:∀ (F:FH),(∀ b o,F b=some o→p.W.own b=some a∧p.s.heap.get? b=some o)→(∀ F',FLe p.W.F F'→FLe F F'→V Q F' (.ref a) d)→∃ W',Bh none p ⟨W',p.s⟩∧Inv Q W' σ' p.s.heap∧V Q W'.F (.ref a) d:=fun F hF hv=>
  have x:=(Bh.refl none p).thaw hF I.frzO
  ⟨_,x,I.thaw hF,hv _ x.F fun b o e=>thaw_F e⟩
 cases c with
 | inst k fs=>
  cases hf
  obtain ⟨dx,es,m,hx,hdx,hv,o1,o2,ne⟩:=hcell
  refine fin (fun b=>if b=a then some (instObj (cT k) dx) else if b=dx then some (dictOf es m) else none) (fun b o e=>?_) fun F' k1 k2=>?_
  ·split at e
   ·rename_i q;cases e;exact ⟨q▸o1,q▸hx⟩
   ·split at e
    ·rename_i q;cases e;exact ⟨q▸o2,q▸hdx⟩
    ·cases e
  ·exact .inst (k2 a _ (if_pos rfl)) (k2 dx _ (by show (if dx=a then _ else _)=_;rw [if_neg ne,if_pos rfl])) (hv.mono k1)
 | lst l=>
  cases hf
  obtain ⟨vs,m,hx,hv,o1⟩:=hcell
  refine fin (fun b=>if b=a then some (PySem.W.listOf vs m) else none) (fun b o e=>?_) fun F' k1 k2=>?_
  ·split at e
   ·rename_i q;cases e;exact ⟨q▸o1,q▸hx⟩
   ·cases e
  ·exact .lst (k2 a _ (if_pos rfl)) (hv.mono k1)
 | _=>first|exact ffE hf|exact tfE hf|exact noE hf|cases hf
inductive Frz (Φ:AV→St→Prop) (d:AV) (σ:St):Prop
 | mk (a:Addr) (c:Cell) (d':AV) (σ':St) (r:d=.ref a) (t:TakeC σ a c σ') (f:frz c=some d') (h:Φ d' σ')
theorem WC.freeze {f:Value} {args:List AV} {Φ:AV→St→Prop} (h:WC Q n f args σ (Frz Φ)):WC Q n f args σ Φ:=fun A p vs G R I hv k=>h A p vs G R I hv fun σ' q v d I' x r hΦ=>by
 obtain ⟨a,c,d',σ'',rfl,hc,hf,hΦ⟩:=hΦ
 obtain ⟨W'',x',I'',hv'⟩:=Mine.freeze I' hc hf
 obtain rfl:=v_ref r
 exact k σ'' ⟨W'',q.s⟩ _ d' I'' (x.trans x') hv' hΦ
theorem WE.freeze {e:Expr} {K:Kt} (h:WE Q n env e ρ σ fun d ρ σ=>Frz (fun d σ=>K d ρ σ) d σ):WE Q n env e ρ σ K:=fun A p G R a₀ k=>h A p G R a₀ fun ρ' σ' q v d b x r hΦ=>by
 obtain ⟨a,c,d',σ'',rfl,hc,hf,hΦ⟩:=hΦ
 obtain ⟨W'',x',I'',hv'⟩:=Mine.freeze b.I hc hf
 obtain rfl:=v_ref r
 exact k ρ' σ'' ⟨W'',q.s⟩ _ d' (b.ext x' I'') (x.trans x'.wide) hv' hΦ
theorem w_cls (X:Cx Q) {k:Nat} {fI:Addr} {args:List AV} {Φ:AV→St→Prop} (hm:iniIn Q.K (cT k) fI=true)
  (h:∀ a,WD Q n (.ref fI) (.ref a::args) ((a,.inst k [])::σ) fun d σ'=>d=.none∧Φ (.ref a) σ'):WC Q (n+1) (.ref (cT k)) args σ Φ:=fun A p vs G R I hv kk=>by
 simp only [iniIn,Bool.and_eq_true,beq_iff_eq] at hm
 have X':=X.X.keeps I.keepB
 refine wpAny_call (make_core (makes_of X' hm.1.1) (looks_findIn X' hm.1.2) (fun self=>bind_fn X' self hm.2) (.inl rfl) ?_)
 have I₁:=I.push emptyDict
 let W':Wd:={ F:=p.W.F,own:=fun b=>if @Eq Nat b p.s.heap.objs.size∨@Eq Nat b (p.s.heap.objs.size+1) then some (p.s.heap.objs.size+1) else p.W.own b }
 have gk:∀ b o,p.s.heap.get? b=some o→((p.s.heap.push emptyDict).push (instObj (cT k) p.s.heap.objs.size)).get? b=some o:=fun b o e=>Heap.get?_push_of_some _ (Heap.get?_push_of_some _ e)
 have g1:((p.s.heap.push emptyDict).push (instObj (cT k) p.s.heap.objs.size)).get? p.s.heap.objs.size=some emptyDict:=Heap.get?_push_of_some _ (Heap.get?_push_size _ rfl)
 have g2:((p.s.heap.push emptyDict).push (instObj (cT k) p.s.heap.objs.size)).get? (p.s.heap.objs.size+1)=some (instObj (cT k) p.s.heap.objs.size):=by
  have:=Heap.get?_push_size (p.s.heap.push emptyDict) (o:=instObj (cT k) p.s.heap.objs.size) rfl
  rwa [Heap.size_push] at this
 have oo:∀ b:Nat,b < p.s.heap.objs.size→W'.own b=p.W.own b:=fun b hb=>if_neg (fun q=>q.elim (Nat.ne_of_lt hb) (Nat.ne_of_lt (Nat.lt_succ_of_lt hb)))
 have ol:∀ b x,p.W.own b=some x→@LT.lt Nat _ b p.s.heap.objs.size:=fun b x e=>let ⟨o,g⟩:=I.live b x e;Heap.lt_size g
 have I':Inv Q W' ((p.s.heap.objs.size+1,.inst k [])::σ) ((p.s.heap.push emptyDict).push (instObj (cT k) p.s.heap.objs.size)):=by
  refine ⟨fun b o e=>gk b o (I.frz b o e),fun b o e=>(oo b (Heap.lt_size (I.frz b o e))).trans (I.frzO b o e),fun b x e=>?_,fun p' hp=>?_,?_,fun b o e=>⟨gk b o (I.base b o e).1,(oo b (Heap.lt_size (I.base b o e).1)).trans (I.base b o e).2⟩⟩
  ·have e':(if @Eq Nat b p.s.heap.objs.size∨@Eq Nat b (p.s.heap.objs.size+1) then some (p.s.heap.objs.size+1) else p.W.own b)=some x:=e
   split at e'
   ·rename_i q;rcases q with q|q
    ·rw [show b=p.s.heap.objs.size from q];exact ⟨_,g1⟩
    ·rw [show b=p.s.heap.objs.size+1 from q];exact ⟨_,g2⟩
   ·exact (I.live b x e').imp fun o e=>gk b o e
  ·rcases List.mem_cons.mp hp with rfl|hp
   ·exact ⟨p.s.heap.objs.size,[],0,g2,g1,.nil,if_pos (.inr rfl),if_pos (.inl rfl),Nat.ne_of_lt (Nat.lt_succ_self _)⟩
   ·exact (I.cells p' hp).keep (FLe.refl _) (fun b e=>(oo b (ol b _ e)).trans e) (fun b o _ e=>gk b o e) fun b o e=>gk b o (I.frz b o e)
  ·rw [List.map_cons,List.nodup_cons]
   refine ⟨fun q=>?_,I.nd⟩
   obtain ⟨p',hp,e⟩:=List.mem_map.mp q
   have h1:@LT.lt Nat _ p'.1 p.s.heap.objs.size:=ol p'.1 _ (I.cells p' hp).owned
   exact Nat.lt_irrefl _ (Nat.lt_trans (Nat.lt_succ_self _) ((show @Eq Nat p'.1 (p.s.heap.objs.size+1) from e)▸h1))
 have x₀:Bh none p ⟨W',{ p.s with heap:=(p.s.heap.push emptyDict).push (instObj (cT k) p.s.heap.objs.size) }⟩:=
  ⟨FLe.refl _,fun b o e g=>⟨(oo b (Heap.lt_size g)).trans e,id,⟨o,gk b o g⟩,fun _=>gk b o g⟩,rfl,rfl,rfl⟩
 have R':Room (A.under (.builtin "type.__call__" ⟨.ref (cT k)::vs,[]⟩)) n:=⟨R.hd,by
   show A.depth+(Code.builtin "type.__call__" ⟨.ref (cT k)::vs,[]⟩).weight+4*n < 900
   rw [show (Code.builtin "type.__call__" ⟨.ref (cT k)::vs,[]⟩).weight=1 by kernel_rfl]
   exact R.d' (by decide),by
   show A.units+(Code.builtin "type.__call__" ⟨.ref (cT k)::vs,[]⟩).cUnits+40*n < 9000
   rw [show (Code.builtin "type.__call__" ⟨.ref (cT k)::vs,[]⟩).cUnits=1 by kernel_rfl]
   exact R.u' (by decide)⟩
 refine codeAny_mono (h (p.s.heap.objs.size+1) _ ⟨W',{ p.s with heap:=(p.s.heap.push emptyDict).push (instObj (cT k) p.s.heap.objs.size) }⟩ (.ref (p.s.heap.objs.size+1)::vs) (fun v s=>v=.none∧G (.ref (p.s.heap.objs.size+1)) s) R' I' (.cons (.ref _) hv) fun σ' q v d I'' x hv' hΦ=>?_) fun r s' q=>?_
 ·obtain ⟨rfl,hΦ⟩:=hΦ
  exact ⟨v_none hv',kk σ' q _ _ I'' (x₀.trans x) (.ref _) hΦ⟩
 ·rcases r with e|(_|_|_|v)
  ·exact q.elim
  ·exact q.elim
  ·exact q.elim
  ·exact q.elim
  ·exact q
theorem FnOk.wk (X:Cx Q) {i:Nat} {t:T} {ns pn rs:List Str} {gs:List Nat} (h:FnOk (mth i 0) t ns pn rs gs) (hi:iniIdx.elem i=true) {args:List AV} {Φ:AV→St→Prop} (hl:args.length+1=pn.length) (k:∀ a env,EnvOk env (scS (mth i 0)) []→runS (cF ns gs Q n env) 100 true t (fr0 ns (.ref a::args)) ((a,.inst i [])::σ) (retO (inO a Φ))):WC Q (n+2) (.ref (cT i)) args σ Φ:=by
 obtain ⟨f,h1,h2⟩:=X.ini i (elem_mem hi)
 exact w_cls X h1 fun a=>h.wd X h2 hl (k a)
theorem FnOk.wi (X:Cx Q) {t:T} {ns pn rs:List Str} {gs:List Nat} (h:FnOk (mth 73 0) t ns pn rs gs) {args:List AV} {Φ:AV→St→Prop} (hl:args.length=pn.length) (k:∀ env,EnvOk env (scS (mth 73 0)) []→runS (cF ns gs Q n env) 100 true t (fr0 ns args) σ (retO Φ)):WI Q (n+1) args σ Φ:=fun f hf=>by
 obtain ⟨f',h1,h2⟩:=X.opI
 have e:f'=f:=by
  simp only [clsAttrIn,Bool.and_eq_true] at hf h1
  have e1:=h1.1.2
  have e2:=hf.1.2
  revert e1 e2
  cases findCls Q.K (.ref (cT 73)) (.type "type") "__init__" with
  | none=>exact fun q=>nomatch q
  | some z=>cases z with
   | val v=>exact fun q q'=>Value.ref.inj ((beq_iff_eq.mp q).symm.trans (beq_iff_eq.mp q'))
   | get _ _ _ _=>exact fun q=>nomatch q
 subst e
 exact WD.wc (h.wd X h2 hl k)
end
end
section
open Builtin Builtin.ObjectAttr
set_option tactic.hygienic false
inductive VP (Q:Bt) (F:FH):List (Value × Value)→List (Str × AV)→Prop
 | nil:VP Q F [] []
 | cons {x:Str} {t:Tok} {v:Value} {d:AV} {vs:List (Value × Value)} {ds:List (Str × AV)} (h:V Q F v d) (r:VP Q F vs ds):VP Q F ((.str x t,v)::vs) ((x,d)::ds)
noncomputable def dK (ks:List (Str × Pos)):List (Option Expr):=ks.map fun k=>some (.Constant (.str k.1) 0 k.2)
noncomputable def prs (env:Env) (pos:Pos):List (Str × Pos)→List Expr→List (Sem Value × Sem Value)
 | k::ks,v::vs=>(eval (.Constant (.str k.1) 0 k.2) env,do let x ← eval v env;standAt pos;pure x)::prs env pos ks vs
 | _,_=>[]
section
variable {C:Cn} {sc:Scope} {σ:St} {ρ:Rho} {K:Kt} {Q:Bt} {env:Env} {n:Nat}
theorem VP.carries {F:FH} {vs:List (Value × Value)} {ds:List (Str × AV)} (h:VP Q F vs ds):∃ kvs,Carries (PySem.strKind Q.prog Q.w) vs kvs∧VK Q F kvs ds:=by
 induction h with
 | nil=>exact ⟨[],trivial,.nil⟩
 | @cons x t v d vs ds h r ih=>obtain ⟨kvs,a,b⟩:=ih;exact ⟨(x,v)::kvs,⟨PySem.strKind_is _ _ _ _,rfl,a⟩,.cons h b⟩
theorem prs_shape (pos:Pos) {ks:List (Str × Pos)} {vs:List Expr} (hl:ks.length=vs.length):((evalEachOpt (dK ks) env).zip ((evalEach vs env).map fun v=>do let x ← v;standAt pos;pure x))=(prs env pos ks vs).map (fun p=>(some p.1,p.2))∧(prs env pos ks vs).length=ks.length:=by
 induction ks generalizing vs with
 | nil=>cases vs with|nil=>exact ⟨rfl,rfl⟩|cons _ _=>first|exact ffE hl|exact tfE hl|exact noE hl|cases hl
 | cons k ks ih=>cases vs with
  | nil=>first|exact ffE hl|exact tfE hl|exact noE hl|cases hl
  | cons v vs=>
   obtain ⟨h1,h2⟩:=ih (vs:=vs) (Nat.succ.inj hl)
   exact ⟨by rw [prs,List.map_cons,← h1];rfl,by rw [prs,List.length_cons,List.length_cons,h2]⟩
theorem prs_run (O:Cok C sc) (pos:Pos) (f:Nat):∀ {ks:List (Str × Pos)} {vs:T} {ρ:Rho} {σ:St} {K:Kt},runE C f .l vs ρ σ K→ks.length=(C.L vs).length →
  WX C.Q C.n C.env (VP C.Q) (evalPairs (prs C.env pos ks (C.L vs))) ρ σ fun l ρ σ=>∃ ds,l=(ks.map (·.1)).zip ds∧ds.length=ks.length∧K (.tup ds) ρ σ:=by
 induction f with
 | zero=>exact fun h _=>h.elim
 | succ f ih=>
  intro ks vs ρ σ K h hl
  have h:stepL (runE C f) vs ρ σ K:=h
  cases vs with
  | nil=>
   cases ks with
   | nil=>exact fun A p G R a k=>evalPairs_nil (k ρ σ p _ _ a (Bh.refl _ p) .nil ⟨[],rfl,rfl,h⟩)
   | cons _ _=>first|exact ffE hl|exact tfE hl|exact noE hl|cases hl
  | cons a r=>
   cases ks with
   | nil=>first|exact ffE hl|exact tfE hl|exact noE hl|cases hl
   | cons k ks=>
    intro A p G R o kk
    have h1:WE C.Q C.n C.env (C.E a) ρ σ _:=runE_ok O f .e a ρ σ _ h
    refine evalPairs_cons (Constant_str (wpAny_bind (h1 A (p.tok (p.s.toks+1)) _ R (o.tok _) fun ρ₁ σ₁ p₁ v d o₁ x₁ r₁ h₁=>wpAny_bind (wpAny_standAt (wpAny_pure ?_)))))
    refine ih h₁ (Nat.succ.inj hl) A p₁ _ R o₁ fun ρ₂ σ₂ p₂ vs' l o₂ x₂ r₂ h₂=>?_
    obtain ⟨ds,rfl,hd,h₂⟩:=h₂
    exact kk ρ₂ σ₂ p₂ _ _ o₂ (((Bh.refl _ p).tok _).trans (x₁.trans x₂)) (.cons (x₂.V r₁) r₂) ⟨d::ds,rfl,congrArg (·+1) hd,h₂⟩
  | _=>exact h.elim
theorem e_dict0 {pos:Pos} {c:Cell} (hc:c=.sd []∨c=.zd (fun _=>none) 0) (h:∀ D,K (.ref D) ρ ((D,c)::σ)):WE Q n env (.Dict [] [] pos) ρ σ K:=fun A p G R a k=>by
 refine wpAny_Dict_empty ?_
 have x:Bh none p ⟨_,_⟩:=Ext.pushC p.W p.s { cls:=.type "dict",data:=.dict #[] } p.s.toks
 refine k ρ _ ⟨_,_⟩ _ _ (a.ext x (a.I.pushC (c:=c) rfl ?_)) x.wide (.ref _) (h _)
 rcases hc with rfl|rfl
 ·exact ⟨[],Heap.DictOf.new ..,.nil,Wd.add_self⟩
 ·exact ⟨[],Heap.DictOf.new ..,Nat.le_refl _,fun _=>.none,Wd.add_self⟩
theorem e_dictS (O:Cok C sc) {ks:List (Str × Pos)} {vs:T} {f:Nat} {pos:Pos} (hk:(decide (ks.length=(C.L vs).length)&&decide (0 < ks.length)&&decide (ks.length≤15)&&decide (ks.map (·.1)).Nodup)=true)
  (h:runE C f .l vs ρ σ fun l ρ σ=>asT l fun l=>∀ D,K (.ref D) ρ ((D,.sd ((ks.map (·.1)).zip l))::σ)):WE C.Q C.n C.env (.Dict (dK ks) (C.L vs) pos) ρ σ K:=fun A p G R a k=>by
 simp only [Bool.and_eq_true,decide_eq_true_eq] at hk
 obtain ⟨⟨⟨k2,k3⟩,k4⟩,nd⟩:=hk
 obtain ⟨hs,hlen⟩:=prs_shape (env:=C.env) pos k2
 refine wpAny_Dict_pairs (knd:=PySem.strKind C.Q.prog C.Q.w) hs (fun e=>by rw [e] at hlen;rw [← hlen] at k3;exact Nat.lt_irrefl _ k3) (hlen▸k4) ?_
 have x₀:Bh none p ⟨p.W,{ p.s with heap:=p.s.heap.push { cls:=.type "dict",data:=.dict #[] } }⟩:=Ext.push p.W p.s _ p.s.toks
 have g0:(p.s.heap.push { cls:=.type "dict",data:=.dict #[] }).get? p.s.heap.objs.size=some { cls:=.type "dict",data:=.dict #[] }:=Heap.get?_push_size _ rfl
 have nob:=a.I.nob fresh_size
 have hDL:some p.s.heap.objs.size≠some C.env.locals:=fun q=>by
  obtain ⟨m,⟨o,es,ep,ho,_⟩,_⟩:=a.F.ns
  exact absurd (Heap.lt_size ho) (by rw [← Option.some.inj q];exact Nat.lt_irrefl _)
 refine prs_run O pos f h k2 A ⟨p.W,{ p.s with heap:=p.s.heap.push { cls:=.type "dict",data:=.dict #[] } }⟩ _ R (a.ext x₀ (a.I.push _)) fun ρ₁ σ₁ p₁ ps l a₁ x₁ r₁ h₁=>?_
 obtain ⟨ds,rfl,hd,h₁⟩:=h₁
 obtain ⟨kvs,hc,hv⟩:=r₁.carries
 obtain ⟨u1,u2,_,u4⟩:=x₁.un _ _ nob.1 g0
 have hd1:p₁.s.heap.DictOf (PySem.strKind C.Q.prog C.Q.w) p.s.heap.objs.size []:=by
  obtain ⟨o,es,ep,ho,r⟩:=(Heap.DictOf.new ..:(p.s.heap.push { cls:=.type "dict",data:=.dict #[] }).DictOf (PySem.strKind C.Q.prog C.Q.w) p.s.heap.objs.size [])
  rw [g0] at ho;cases ho
  exact ⟨_,es,ep,u4 hDL,r⟩
 refine ⟨kvs,hc,hd1,fun h' ho hs=>?_⟩
 rw [merged_nil_of_nodup _ (by rw [vk_keys hv,zip_keys (hd.trans (List.length_map _).symm)];exact nd)] at ho
 have kk:∀ b o,b∉[p.s.heap.objs.size]→p₁.s.heap.get? b=some o→h'.get? b=some o:=fun b o hb e=>(hs.2 b fun q=>hb (q▸.head _)).trans e
 have a₂:=a₁.loose (t:=p₁.s.toks+ps.length) (wr:=[p.s.heap.objs.size]) (all1 ⟨u1,u2 nob.2.1,nob.2.2⟩ all0) (fun q=>hDL (congrArg some (List.mem_singleton.mp q).symm)) kk
 have I₃:=a₂.I.adopt (c:=.sd ((ks.map (·.1)).zip ds)) u1 (u2 nob.2.1) nob.2.2 (let ⟨o,_,_,e,_⟩:=ho;⟨o,e⟩) ⟨kvs,ho,hv.mono (FLe.refl _),Wd.add_self⟩
 have x₃:Bh (some C.env.locals) p ⟨p₁.W.add p.s.heap.objs.size,{ p₁.s with heap:=h',toks:=p₁.s.toks+ps.length }⟩:=
  ⟨x₁.F,fun b o e g=>by
   have hb:b≠p.s.heap.objs.size:=Nat.ne_of_lt (Heap.lt_size g)
   obtain ⟨v1,v2,⟨o',v3⟩,v4⟩:=x₁.un b o e (Heap.get?_push_of_some _ g)
   exact ⟨(Wd.add_ne hb).trans v1,v2,⟨o',(hs.2 b hb).trans v3⟩,fun q=>(hs.2 b hb).trans (v4 q)⟩,x₁.gens,x₁.drawn,x₁.os⟩
 exact k ρ₁ _ ⟨_,_⟩ _ _ ⟨I₃,⟨a₂.F.ns,(Wd.add_ne fun q=>hDL (congrArg some q.symm)).trans a₂.F.own,a₂.F.F,a₂.F.base,a₂.F.len⟩⟩ x₃ (.ref _) (h₁ _)
end
end
section
open Builtin Builtin.ObjectAttr
set_option tactic.hygienic false
noncomputable def cloFor (scope:Scope) (cs:List (Str × Addr)):List (Str × Addr):=scope.names.foldl (fun acc x=>if x.2==.free then (x.1,(cs.lookup x.1).getD 0)::acc else acc) []
noncomputable def relabelS (scope sc:Scope):Scope:=
 { scope with names:=scope.names.map fun (n,k)=>if (k==.free&&sc.kind==.function&&sc.names.lookup n==some .cell) then (n,.cell) else (n,k) }
noncomputable def WComp (as:AV→Rho→St→Kt→Prop) (cd el:Rho→St→Kt→Prop):List AV→List AV→Rho→St→(List AV→St→Prop)→Prop
 | [],acc,ρ,σ,K=>K acc σ
 | d::l,acc,ρ,σ,K=>as d ρ σ fun _ ρ σ=>cd ρ σ fun c ρ σ=>asB c fun c=>Br c (el ρ σ fun y ρ σ=>WComp as cd el l (acc++[y]) ρ σ K) (WComp as cd el l acc ρ σ K)
noncomputable def ifR (C:Cn) (f:Nat) (t:T) (ρ:Rho) (σ:St) (K:Kt):Prop:=match t with
 | .nil=>K (.bool true) ρ σ
 | .cons c .nil=>runE C f .t c ρ σ K
 | _=>False
structure Grows (Q:Bt) (p:Po) (D:Addr) (acc:List AV):Prop where
 own:p.W.own D=none
 F:p.W.F D=none
 base:Q.hB.get? D=none
 at_:∃ vs m,p.s.heap.get? D=some (PySem.W.listOf vs m)∧VL Q p.W.F vs.toList acc
section
variable {Q:Bt} {n:Nat} {env:Env} {sc:Scope} {cs:List (Str × Addr)} {σ σ':St} {ρ:Rho} {p q r:Po} {C D a:Addr} {acc l:List AV} {tk:Bool}
theorem closure_eq (E:EnvOk env sc cs) {scope:Scope} (h:(scope.names.all fun x=>x.2 != .free || (cs.lookup x.1).isSome)=true):closureFor scope env=pure (cloFor scope cs):=by
 have key:∀ (l:List (Str × NameKind)) (acc:List (Str × Addr)),(l.all fun x=>x.2 != .free || (cs.lookup x.1).isSome)=true →
   (forIn l acc (fun (x:Str × NameKind) (r:List (Str × Addr))=>(if x.2==.free then (do let c ← cellOf env x.1;pure (ForInStep.yield ((x.1,c)::r))) else pure (ForInStep.yield r):Sem (ForInStep (List (Str × Addr)))))) =
    (pure (l.foldl (fun acc x=>if x.2==.free then (x.1,(cs.lookup x.1).getD 0)::acc else acc) acc):Sem (List (Str × Addr))):=by
  intro l
  induction l with
  | nil=>intro acc _;rfl
  | cons x l ih=>
   intro acc h
   rw [List.all_cons,Bool.and_eq_true] at h
   rw [List.forIn_cons,List.foldl_cons]
   cases hx:x.2==.free with
   | false=>
    rw [if_neg Bool.false_ne_true,if_neg Bool.false_ne_true,pure_bind]
    exact ih _ h.2
   | true=>
    have h1:=h.1
    rw [bne,hx,Bool.not_true,Bool.false_or] at h1
    obtain ⟨c,hc⟩:=Option.isSome_iff_exists.mp h1
    have:cellOf env x.1=pure c:=by unfold cellOf;rw [E.cel,hc]
    rw [if_pos rfl,if_pos rfl,this,pure_bind,pure_bind,hc]
    exact ih _ h.2
 unfold closureFor cloFor
 have:=key scope.names [] h
 simp only [bind_pure]
 exact this
theorem relabel_eq (E:EnvOk env sc cs) (scope:Scope):relabel scope env=relabelS scope sc:=by
 unfold relabel relabelS
 have:∀ x,env.kindOf x=sc.names.lookup x:=fun x=>by show env.scope.names.lookup x=_;rw [E.scp]
 simp only [this,E.scp]
theorem Bh.under {C:Addr} (x:Bh none p q) (y:Bh (some C) q r) (hC:p.s.heap.get? C=none):Bh none p r:=
 ⟨x.F.trans y.F,fun b o e g=>by
  obtain ⟨u1,u2,_,u4⟩:=x.un b o e g
  obtain ⟨v1,v2,v3,v4⟩:=y.un b o u1 (u4 nofun)
  exact ⟨v1,fun z=>v2 (u2 z),v3,fun _=>v4 fun q=>by rw [Option.some.inj q] at g;rw [hC] at g;cases g⟩,y.gens.trans x.gens,y.drawn.trans x.drawn,y.os.trans x.os⟩
theorem Bh.turned {X:Option Addr} {h':Heap} {t:Nat} (x:Bh X p q) (hD:p.s.heap.get? D=none) (k:∀ b o,b∉[D]→q.s.heap.get? b=some o→h'.get? b=some o):Bh X p ⟨q.W,{ q.s with heap:=h',toks:=t }⟩:=
 ⟨x.F,fun b o e g=>by
  obtain ⟨u1,u2,⟨o',u3⟩,u4⟩:=x.un b o e g
  have hb:b∉[D]:=fun q=>by rw [List.mem_singleton.mp q,hD] at g;cases g
  exact ⟨u1,u2,⟨o',k b o' hb u3⟩,fun q=>k b o hb (u4 q)⟩,x.gens,x.drawn,x.os⟩
theorem Grows.keep (g:Grows Q p D acc) (x:Bh (some C) p q) (hD:D≠C):Grows Q q D acc:=by
 obtain ⟨vs,m,e,hv⟩:=g.at_
 obtain ⟨u1,u2,_,u4⟩:=x.un D _ g.own e
 exact ⟨u1,u2 g.F,g.base,vs,m,u4 fun q=>hD (Option.some.inj q),hv.mono x.F⟩
theorem Grows.off {wr:List Addr} (g:Grows Q p D acc) (hk:∀ b o,b∉wr→p.s.heap.get? b=some o→q.s.heap.get? b=some o) (hD:D∉wr) (hW:q.W=p.W):Grows Q q D acc:=by
 obtain ⟨vs,m,e,hv⟩:=g.at_
 rw [← hW] at hv
 exact ⟨hW▸g.own,hW▸g.F,g.base,vs,m,hk _ _ hD e,hv⟩
theorem comp_loop {elt target iter:Expr} {ifs:List Expr} {scope:Scope} {pos:Pos} {it acc:Value} {A:Around} {Rr:Result→Shared→Prop} {s:Shared} (J:Nat→Shared→Prop)
  (turn:∀ m s,J m s→WP Q A (pyNext it) (fun r s₁=>match r with
   | none=>Rr (.ok .next) s₁
   | some v=>WP Q A (letOwnedTupleGo target it v) (fun _ s₁'=>WP Q A (assign target env v) (fun _ s₂=>
     WP Q A (forIn ifs true fun c r=>if r=true then do let ok ← isTrue c env (eval c env);pure (ForInStep.yield ok) else pure (ForInStep.yield r)) (fun ok s₃=>
      if ok=true then WP Q A (eval elt env) (fun x s₄=>
       WP Q A (call (.builtin "list.append") [acc,x]) (fun _ s₅=>∃ k,k < m∧J k s₅) s₄) s₃
      else ∃ k,k < m∧J k s₃) s₂) s₁') s₁) s)
  (m:Nat) (h:J m s):codeAny (model Q.prog Q.w) A (.compLoop (.ListComp elt [⟨target,iter,ifs,0⟩] scope pos) 0 it acc env) Rr s:=by
 refine codeAny_loop rfl J (fun m s hI=>?_) m h
 show wpAny _ A ((compTurn (.ListComp elt [⟨target,iter,ifs,0⟩] scope pos) 0 it acc env).onRaise (fun x=>do noteFrame x env;theTreesLotGoes x)) _ _ s
 refine wpAny_noted ?_
 rw [compTurn_list]
 refine wpAny_bind (wpAny_standAt (wpAny_bind (wpAny_mono (turn m s hI) (fun r s₁ h₁=>?_) fun _ _ z=>z.elim)))
 cases r with
 | none=>exact wpAny_pure h₁
 | some v=>
  refine wpAny_bind (wpAny_mono h₁ (fun _ s₁' h₁'=>?_) fun _ _ z=>z.elim)
  refine wpAny_bind (wpAny_mono h₁' (fun _ s₂ h₂=>wpAny_bind (wpAny_mono h₂ (fun ok s₃ h₃=>?_) fun _ _ z=>z.elim)) fun _ _ z=>z.elim)
  cases ok with
  | false=>exact wpAny_pure ⟨rfl,h₃⟩
  | true=>exact wpAny_bind (wpAny_bind (wpAny_mono h₃ (fun x s₄ h₄=>wpAny_bind (wpAny_mono h₄ (fun _ s₅ h₅=>wpAny_pure (wpAny_pure ⟨rfl,h₅⟩)) fun _ _ z=>z.elim)) fun _ _ z=>z.elim))
noncomputable abbrev WF (Q:Bt) (n:Nat) (env:Env) (ifs:List Expr) (ρ:Rho) (σ:St) (K:Kt):Prop:=WX Q n env (fun _ (b:Bool) (c:Bool)=>b=c) (forIn ifs true fun c r=>if r=true then do let ok ← isTrue c env (eval c env);pure (ForInStep.yield ok) else pure (ForInStep.yield r)) ρ σ fun c ρ σ=>K (.bool c) ρ σ
theorem ifR_ok {C:Cn} {sc:Scope} (O:Cok C sc) {f:Nat} {t:T} {ρ:Rho} {σ:St} {K:Kt} (h:ifR C f t ρ σ K):WF C.Q C.n C.env (C.L t) ρ σ K:=by
 cases t with
 | nil=>exact WX.look h fun A p G R a k=>wpAny_pure (k true p.s.toks rfl)
 | cons c r=>cases r with
  | nil=>
   intro A p G R a k
   show WP _ _ (forIn [C.E c] true _) _ _
   rw [List.forIn_cons,if_pos rfl]
   have h1:WT C.Q C.n C.env (C.E c) ρ σ fun c ρ σ=>K (.bool c) ρ σ:=runE_ok O f .t c ρ σ K h
   exact wpAny_bind (wpAny_bind (h1 A p _ R a fun ρ' σ' q x y b xx e φ=>wpAny_pure (wpAny_pure (k ρ' σ' q x y b xx e φ))))
  | _=>exact h.elim
 | _=>exact h.elim
inductive CompJ (Q:Bt) (env:Env) (a:Addr) (tk:Bool) (fp wr:List Addr) (m:Nat) (P Md:Nat→Value→Heap→Prop) (St':Nat→Heap→Prop) (D:Addr) (p₁:Po) (as:AV→Rho→St→Kt→Prop) (cd el:Rho→St→Kt→Prop) (Φ:List AV→St→Prop) (k:Nat) (s':Shared):Prop
 | mk (q:Po) (l:List AV) (i:Nat) (acc:List AV) (ρ':Rho) (σ':St) (e:s'=q.s) (x:Bh none p₁ q) (b:At Q env ρ' σ' q) (H:Held Q q env.locals a tk l fp wr m P Md St' i) (g:Grows Q q D acc) (h:WComp as cd el l acc ρ' σ' Φ) (hz:acc.length+l.length≤2^23) (ek:k=l.length)
theorem comp_run {A:Around} {target iter elt:Expr} {ifs:List Expr} {scope:Scope} {pos:Pos} {Φ:List AV→St→Prop} {as:AV→Rho→St→Kt→Prop} {cd el:Rho→St→Kt→Prop} {p₁:Po} {fp wr:List Addr} {m:Nat} {P Md:Nat→Value→Heap→Prop} {St':Nat→Heap→Prop} {i:Nat} {Rr:Result→Shared→Prop}
  (R:Room A n) (ht:tgtOk tk target=true) (hw:∀ b∈wr,p₁.W.own b≠none) (hC:p₁.s.heap.get? env.locals=none) (hD:p₁.s.heap.get? D=none) (hDC:D≠env.locals) (hDw:D∉wr) (hDf:D∉fp)
  (x:Bh none p₁ p) (b:At Q env ρ σ p) (H:Held Q p env.locals a tk l fp wr m P Md St' i) (g:Grows Q p D []) (hz:l.length≤2^23)
  (has:∀ d ρ σ K,as d ρ σ K→WTg Q n env tk target d ρ σ fun ρ σ=>∃ d,K d ρ σ) (hcd:∀ ρ σ K,cd ρ σ K→WF Q n env ifs ρ σ K) (hel:∀ ρ σ K,el ρ σ K→WE Q n env elt ρ σ K)
  (h:WComp as cd el l [] ρ σ Φ) (hR:∀ q acc ρ' σ',Bh none p₁ q→At Q env ρ' σ' q→Grows Q q D acc→Φ acc σ'→Rr (.ok .next) q.s):
  codeAny (model Q.prog Q.w) A (.compLoop (.ListComp elt [⟨target,iter,ifs,0⟩] scope pos) 0 (.ref a) (.ref D) env) Rr p.s:=by
 refine comp_loop (CompJ Q env a tk fp wr m P Md St' D p₁ as cd el Φ)
  (fun k s' z=>?_) l.length ⟨p,l,i,[],ρ,σ,rfl,x,b,H,g,h,(Nat.zero_add _).symm▸hz,rfl⟩
 obtain ⟨q,l,i,acc,ρ',σ',rfl,x',b',H',g',h',hz',ek⟩:=z
 refine wpAny_mono (H'.turn (E:=fun _ _=>False) (G0:=fun s=>Rr (.ok .next) s) (G1:=fun v s=>WP Q A (assign target env v) (fun _ s₂=>
     WP Q A (forIn ifs true fun c r=>if r=true then do let ok ← isTrue c env (eval c env);pure (ForInStep.yield ok) else pure (ForInStep.yield r)) (fun ok s₃=>
      if ok=true then WP Q A (eval elt env) (fun x s₄=>
       WP Q A (call (.builtin "list.append") [.ref D,x]) (fun _ s₅=>∃ k',k' < k∧CompJ Q env a tk fp wr m P Md St' D p₁ as cd el Φ k' s₅) s₄) s₃
      else ∃ k',k' < k∧CompJ Q env a tk fp wr m P Md St' D p₁ as cd el Φ k' s₃) s₂) s) R.hd ht hw x' b' (fun e q₁ b₁ x₁ hk hW=>?_) fun d l' e v q₁ b₁ x₁ H₁ hv hk hW=>?_) (fun r s hr=>?_) fun _ _ z=>z
 ·subst e
  exact hR q₁ acc ρ' σ' x₁ b₁ (g'.off hk hDw hW) h'
 ·subst e
  have g₁:=g'.off hk hDw hW
  refine at_target R b₁ hv (has _ _ _ _ h') fun ρ₂ σ₂ q₂ b₂ x₂ h₂=>?_
  obtain ⟨_,h₂⟩:=h₂
  refine hcd _ _ _ h₂ A q₂ _ R b₂ fun ρ₃ σ₃ q₃ c c' b₃ x₃ ec h₃=>?_
  subst ec
  have H₃:=(H₁.keep x₂ b₂.I).keep x₃ b₃.I
  have g₃:=(g₁.keep x₂ hDC).keep x₃ hDC
  have X₃:=x₁.under (x₂.trans x₃) hC
  have lt:l'.length < k:=ek▸Nat.lt_succ_self _
  cases c with
  | false=>exact ⟨_,lt,q₃,l',i+1,acc,ρ₃,σ₃,rfl,X₃,b₃,H₃,g₃,h₃,Nat.le_trans (Nat.le_succ _) hz',rfl⟩
  | true=>
   refine hel _ _ _ h₃ A q₃ _ R b₃ fun ρ₅ σ₅ q₅ y yd b₅ x₅ r₅ h₅=>?_
   have H₅:=H₃.keep x₅ b₅.I
   have g₅:=g₃.keep x₅ hDC
   have X₅:=X₃.under x₅ hC
   obtain ⟨vs,z,e,hvs⟩:=g₅.at_
   refine append_at e (fun h₆ hs₆ e₆=>?_) (by rw [vl_size hvs];exact sl (Nat.le_trans (Nat.le_add_right _ _) hz'))
   have kD:∀ b o,b∉[D]→q₅.s.heap.get? b=some o→h₆.get? b=some o:=fun b o hb q=>(hs₆.2 b fun z=>hb (z▸.head _)).trans q
   have b₆:At Q env ρ₅ σ₅ ⟨q₅.W,{ q₅.s with heap:=h₆,toks:=q₅.s.toks }⟩:=b₅.loose (wr:=[D]) (all1 ⟨g₅.own,g₅.F,g₅.base⟩ all0) (fun q=>hDC (List.mem_singleton.mp q).symm) kD
   refine ⟨_,lt,⟨q₅.W,_⟩,l',i+1,acc++[yd],ρ₅,σ₅,rfl,X₅.turned hD kD,b₆,?_,⟨g₅.own,g₅.F,g₅.base,_,_,e₆,by rw [Array.toList_push];exact vl_app (.cons r₅ .nil) hvs⟩,h₅,by rw [List.length_append,List.length_singleton,Nat.add_assoc,Nat.add_comm 1];exact hz',rfl⟩
   obtain ⟨_,_,T'⟩:=H₅.turns {} rfl _ (tgt0_ok tk)
   exact ⟨H₅.turns,H₅.live,T'.frame (i+1) q₅.s.heap h₆ H₅.st fun b hb o q=>kD b o (fun z=>hDf (List.mem_singleton.mp z▸hb)) q,H₅.len,H₅.loose,H₅.fr,fun b hb=>(H₅.fp b hb).imp id fun ⟨o',z,e'⟩=>⟨o',z,b₆.I.frz _ _ z⟩,H₅.vals⟩
 ·cases r with
  | none=>exact hr
  | some v=>exact hr
end
end
section
open Builtin Builtin.ObjectAttr
set_option tactic.hygienic false
noncomputable def scopeOk (scope:Scope) (cs:List (Str × Addr)):Bool:=scope.names.all (fun x=>x.2 != .free || (cs.lookup x.1).isSome)&&scope.names.all (fun y=>y.2 != .cell)&&scope.names.all (fun y=>y.2 != .local || scope.names.lookup y.1==some .local)&&scope.kind==.function
theorem scopeOk_ok {scope:Scope} {cs:List (Str × Addr)} (h:scopeOk scope cs=true):(scope.names.all fun x=>x.2 != .free || (cs.lookup x.1).isSome)=true∧(∀ y∈scope.names,y.2≠.cell)∧(∀ x∈scope.names,x.2=.local→scope.names.lookup x.1=some .local)∧scope.kind=.function:=by
 obtain ⟨h,h4⟩:=Bool.and_eq_true_iff.mp h
 obtain ⟨h,h3⟩:=Bool.and_eq_true_iff.mp h
 obtain ⟨h1,h2⟩:=Bool.and_eq_true_iff.mp h
 refine ⟨h1,fun y hy=>bne_iff_ne.mp (List.all_eq_true.mp h2 y hy),fun x hx e=>?_,beq_iff_eq.mp h4⟩
 have:=List.all_eq_true.mp h3 x hx
 rw [e] at this
 exact beq_iff_eq.mp this
noncomputable def CEnv (scope:Scope) (cs:List (Str × Addr)) (L:Addr) (env:Env):Env:=compEnvC scope (cloFor scope cs) L env
section
variable {Q:Bt} {n:Nat} {env:Env} {sc:Scope} {cs:List (Str × Addr)} {σ σ':St} {ρ:Rho} {p q r:Po} {C D a:Addr} {acc l:List AV} {tk:Bool}
theorem comp_block (E:EnvOk env sc cs) {A:Around} {target iter elt:Expr} {ifs:List Expr} {scope:Scope} {pos:Pos} {Φ:List AV→St→Prop} {as:Env→AV→Rho→St→Kt→Prop} {cd el:Env→Rho→St→Kt→Prop} {ρ0:Rho} {k0:Nat} (R:Room A n) (ht:tgtOk tk target=true)
  (hsc:scopeOk scope cs=true) (e0:ρ0=List.replicate k0 none) (ek:(nsOf (relabelS scope sc)).length=k0) (b:At Q env ρ ((a,.itr tk l)::σ) p) (hz:l.length≤2^23)
  (h:∀ cenv,EnvOk cenv (relabelS scope sc) (cloFor scope cs)→(∀ d ρ σ K,as cenv d ρ σ K→WTg Q n cenv tk target d ρ σ fun ρ σ=>∃ d,K d ρ σ)∧(∀ ρ σ K,cd cenv ρ σ K→WF Q n cenv ifs ρ σ K)∧(∀ ρ σ K,el cenv ρ σ K→WE Q n cenv elt ρ σ K)∧WComp (as cenv) (cd cenv) (el cenv) l [] ρ0 σ Φ)
  {RR:Value→Addr→Result→Shared→Prop} (hRR:∀ D C q acc σ',Bh none p q→Inv Q q.W σ' q.s.heap→(∃ m,q.s.heap.Ns C m)∧q.W.own C=none∧q.W.F C=none∧Q.hB.get? C=none→Grows Q q D acc→Φ acc σ'→D≠C→p.s.heap.get? D=none→p.s.heap.get? C=none→RR (.ref D) C (.ok .next) q.s):
  WP Q A (newList []) (fun acc s₃=>WP Q A (newFunctionEnv scope env.globals (cloFor scope cs) [] env.qual none .none (some env)) (fun cenv s₄=>
   codeAny (model Q.prog Q.w) A (.compStart (.ListComp elt [⟨target,iter,ifs,0⟩] scope pos) 0 (.ref a) acc { cenv with scope:=relabel scope env }) (RR acc cenv.locals) s₄) s₃) p.s:=by
 obtain ⟨q1,q2,q3,q4⟩:=scopeOk_ok hsc
 refine wpAny_newObj_type (wpAny_newFunctionEnv q2 (fun _ m=>nomatch m) (fun h₁ hns₁ hsb₁=>?_) q4)
 dsimp only at hns₁ hsb₁ ⊢
 have hss:@LT.lt Nat _ p.s.heap.objs.size (p.s.heap.push { cls:=.type "list",data:=.seq ([]:List Value).toArray }).objs.size:=by rw [Heap.size_push];exact Nat.lt_succ_self _
 generalize hH2:p.s.heap.push { cls:=.type "list",data:=.seq ([]:List Value).toArray }=H2 at hns₁ hsb₁ hss ⊢
 have old:∀ b o,p.s.heap.get? b=some o→h₁.get? b=some o:=fun b o e=>hsb₁.extBut b o (Nat.ne_of_lt (Nat.lt_trans (Heap.lt_size e) hss)) (Heap.get?_push_of_some _ (hH2▸Heap.get?_push_of_some _ e))
 have hDC:p.s.heap.objs.size≠H2.objs.size:=Nat.ne_of_lt hss
 have fresh:∀ b:Nat,p.s.heap.objs.size≤b→p.s.heap.get? b=none:=fun b hb=>by
  cases e:p.s.heap.get? b with
  | none=>rfl
  | some o'=>exact absurd (Heap.lt_size e) (Nat.not_lt.mpr hb)
 have hgD:h₁.get? p.s.heap.objs.size=some (PySem.W.listOf #[] 0):=hsb₁.extBut _ _ hDC (Heap.get?_push_of_some _ (hH2▸Heap.get?_push_size _ rfl))
 let p':Po:=⟨p.W,{ p.s with heap:=h₁,toks:=p.s.toks+([]:List (Str × Value)).length }⟩
 have x':Bh none p p':=Ext.keeps old rfl rfl rfl
 have b':At Q env ρ ((a,.itr tk l)::σ) p':=b.ext x' (b.I.keeps old)
 obtain ⟨fp,wr,m,P,Md,St',i,H,how⟩:=Held.of b'
 have hCn:=b.I.nob (fresh H2.objs.size (Nat.le_of_lt hss))
 have hDn:=b.I.nob (fresh p.s.heap.objs.size (Nat.le_refl _))
 have hE:EnvOk (CEnv scope cs H2.objs.size env) (relabelS scope sc) (cloFor scope cs):=⟨relabel_eq E scope,E.glob,E.blt,q4,rfl⟩
 have ne_wr:∀ b∈wr,@LT.lt Nat _ b p.s.heap.objs.size:=fun c hc=>let ⟨o,g⟩:=b.I.live c a (how c hc);Heap.lt_size g
 have ne_fp:∀ b∈fp,@LT.lt Nat _ b p.s.heap.objs.size:=fun c hc=>by
  rcases H.fp c hc with z|⟨o,z,_⟩
  ·exact ne_wr c z
  ·exact Heap.lt_size (b.I.frz c o z)
 have I':=b'.I.drop
 have BC:At Q (CEnv scope cs H2.objs.size env) ρ0 σ ⟨p.W.drop a,p'.s⟩:=⟨I',⟨⟨_,hns₁,fun j y d h1 h2=>by
  rw [e0,List.getElem?_replicate] at h2
  split at h2<;>cases h2⟩,Wd.drop_none hCn.1,hCn.2.1,hCn.2.2,by rw [e0,List.length_replicate,hE.scp,ek]⟩⟩
 have HC:Held Q ⟨p.W.drop a,p'.s⟩ H2.objs.size a tk l fp wr m P Md St' i:=⟨H.turns,H.live,H.st,H.len,H.loose,fun q=>absurd (ne_wr _ q) (Nat.not_lt.mpr (Nat.le_of_lt hss)),H.fp,H.vals⟩
 obtain ⟨k1,k2,k3,hW⟩:=h _ hE
 have loop:codeAny (model Q.prog Q.w) A (.compLoop (.ListComp elt [⟨target,iter,ifs,0⟩] scope pos) 0 (.ref a) (.ref p.s.heap.objs.size) (CEnv scope cs H2.objs.size env)) (RR (.ref p.s.heap.objs.size) H2.objs.size) p'.s:=
  comp_run (env:=CEnv scope cs H2.objs.size env) (p₁:=p) (p:=⟨p.W.drop a,p'.s⟩) (iter:=iter) R ht (fun b hb=>by rw [how b hb];exact nofun) (fresh _ (Nat.le_of_lt hss)) (fresh p.s.heap.objs.size (Nat.le_refl _)) hDC (fun q=>absurd (ne_wr _ q) (Nat.lt_irrefl _)) (fun q=>absurd (ne_fp _ q) (Nat.lt_irrefl _)) x'.drop BC HC
   ⟨Wd.drop_none hDn.1,hDn.2.1,hDn.2.2,_,_,hgD,.nil⟩ hz k1 k2 k3 hW fun q acc ρ' σ' x b g hΦ=>hRR _ _ q acc σ' x b.I ⟨b.F.ns.imp fun m z=>z.1,b.F.own,b.F.F,b.F.base⟩ g hΦ hDC (fresh _ (Nat.le_refl _)) (fresh _ (Nat.le_of_lt hss))
 obtain ⟨o,fp',wr',m',P',Md',St'',i',hw,hse,_,_,hst,_⟩:=b'.I.cells (a,.itr tk l) (.head _)
 exact codeAny_compStart_list loop (hse A R.hd i' p'.s _ _ hst loop)
end
noncomputable def cOk (sc:Scope) (ns cn:List Str) (gs:List Nat):Bool:=(nsOf sc==ns)&&ns.all (fun x=>sc.names.lookup x==some .local&&!(x==("__debug__":Str)))&&decide ns.Nodup &&
 cn.all (fun x=>(sc.names.lookup x==some .cell || sc.names.lookup x==some .free)&&!(x==("__debug__":Str))&&!(x==("__classdict__":Str)))&&decide cn.Nodup&&gs.all (fun j=>sc.names.lookup (gN j)==some .globalImplicit&&!(gN j==("__debug__":Str)))
theorem cOk_ok {Q:Bt} (X:Cx Q) {n:Nat} {env:Env} {sc:Scope} {ns cn:List Str} {ca:List Addr} {gs:List Nat} (E:EnvOk env sc (cn.zip ca)) (hl:cn.length=ca.length) (h:cOk sc ns cn gs=true):Cok ⟨Q,n,env,ns,cn,ca,false,gs⟩ sc:=by
 simp only [cOk,Bool.and_eq_true,beq_iff_eq,List.all_eq_true,decide_eq_true_eq,Bool.not_eq_true',Bool.or_eq_true] at h
 obtain ⟨⟨⟨⟨⟨h1,h2⟩,h3⟩,h4⟩,h5⟩,h6⟩:=h
 exact ⟨X,E,h1,h2,h3,fun x hx=>⟨(h4 x hx).1.1,(h4 x hx).1.2,(h4 x hx).2⟩,(fun e=>nomatch e),h5,hl,h6⟩
noncomputable def CompR (C:Cn) (f:Nat) (tg elt ifs:T) (l:List AV) (σ:St) (K:List AV→St→Prop):Prop:=WComp (tgR C (runE C f) tg) (ifR C f ifs) (runE C f .e elt) l [] (List.replicate C.ns.length none) σ K
structure LcOk (C:Cn) (sc:Scope) (scope:Scope) (ns cn:List Str) (ca:List Addr) (gs:List Nat):Prop where
 hsc:scopeOk scope (C.cn.zip C.ca)=true
 hcl:cloFor scope (C.cn.zip C.ca)=cn.zip ca
 hl:cn.length=ca.length
 hc:cOk (relabelS scope sc) ns cn gs=true
section
variable {C:Cn} {sc:Scope} {σ:St} {ρ:Rho} {K:Kt} {it tg elt ifs:T} {ns cn:List Str} {ca:List Addr} {gs:List Nat} {scope:Scope} {pos:Pos} {f g:Nat} {tk:Bool}
theorem comp_at (O:Cok C sc) (L:LcOk C sc scope ns cn ca gs) (htk:tkOf tg=some tk) {A:Around} {p:Po} {a:Addr} {l:List AV} {Φ:List AV→St→Prop} {iter:Expr} (R:Room A C.n) (b:At C.Q C.env ρ ((a,.itr tk l)::σ) p) (hz:l.length≤2^23)
  (h:∀ cenv,CompR ⟨C.Q,C.n,cenv,ns,cn,ca,false,gs⟩ f tg elt ifs l σ Φ)
  {RR:Value→Addr→Result→Shared→Prop} (hRR:∀ D C' q acc σ',Bh none p q→Inv C.Q q.W σ' q.s.heap→(∃ m,q.s.heap.Ns C' m)∧q.W.own C'=none∧q.W.F C'=none∧C.Q.hB.get? C'=none→Grows C.Q q D acc→Φ acc σ'→D≠C'→p.s.heap.get? D=none→p.s.heap.get? C'=none→RR (.ref D) C' (.ok .next) q.s):
  WP C.Q A (newList []) (fun acc s₃=>WP C.Q A (newFunctionEnv scope C.env.globals (cloFor scope (C.cn.zip C.ca)) [] C.env.qual none .none (some C.env)) (fun cenv s₄=>
   codeAny (model C.Q.prog C.Q.w) A (.compStart (.ListComp (hd (den ns cn elt)) [⟨hd (den ns cn tg),iter,den ns cn ifs,0⟩] scope pos) 0 (.ref a) acc { cenv with scope:=relabel scope C.env }) (RR acc cenv.locals) s₄) s₃) p.s:=by
 have hc:=L.hc
 refine comp_block (as:=fun cenv=>tgR ⟨C.Q,C.n,cenv,ns,cn,ca,false,gs⟩ (runE ⟨C.Q,C.n,cenv,ns,cn,ca,false,gs⟩ f) tg) (cd:=fun cenv=>ifR ⟨C.Q,C.n,cenv,ns,cn,ca,false,gs⟩ f ifs) (el:=fun cenv=>runE ⟨C.Q,C.n,cenv,ns,cn,ca,false,gs⟩ f .e elt) (Φ:=Φ) (ρ0:=List.replicate ns.length none) O.E R (tk_ok (C:=⟨C.Q,C.n,C.env,ns,cn,ca,false,gs⟩) (fun _ _ _ _ _ h=>h) htk) L.hsc rfl ?_ b hz (fun cenv E=>?_) hRR
 ·unfold cOk at hc
  simp only [Bool.and_eq_true,beq_iff_eq] at hc
  rw [hc.1.1.1.1.1]
 ·rw [L.hcl] at E
  have O':=cOk_ok (n:=C.n) O.X E L.hl hc
  exact ⟨fun d ρ σ K h=>tgR_ok (C:=⟨C.Q,C.n,cenv,ns,cn,ca,false,gs⟩) (fun m t ρ σ K h=>runE_ok O' f m t ρ σ K h) htk d ρ σ K h,fun ρ σ K h=>ifR_ok O' h,fun ρ σ K h=>runE_ok O' f .e elt ρ σ K h,h cenv⟩
theorem e_comp (O:Cok C sc) (L:LcOk C sc scope ns cn ca gs) (htk:tkOf tg=some tk)
  (h:runE C g .e it ρ σ fun o ρ σ=>IterS C.Q σ o tk fun l σ=>l.length≤2^23∧∀ cenv,CompR ⟨C.Q,C.n,cenv,ns,cn,ca,false,gs⟩ f tg elt ifs l σ fun acc σ=>∀ D,K (.ref D) ρ ((D,.lst acc)::σ)):
  WE C.Q C.n C.env (.ListComp (hd (den ns cn elt)) [⟨hd (den ns cn tg),C.E it,den ns cn ifs,0⟩] scope pos) ρ σ K:=fun A p G R a k=>by
 obtain ⟨q1,q2,q3,q4⟩:=scopeOk_ok L.hsc
 show WP C.Q A (eval (.ListComp (hd (den ns cn elt)) [⟨hd (den ns cn tg),C.E it,den ns cn ifs,0⟩] scope pos) C.env) _ p.s
 rw [eval_ListComp]
 have h1:WE C.Q C.n C.env (C.E it) ρ σ _:=runE_ok O g .e it ρ σ _ h
 refine wpAny_comprehension_free (use:=none) rfl (ok_fold (ok_hd ..)) (closure_eq O.E q1) q4 q3 (h1 A p _ R a fun ρ₁ σ₁ p₁ u o b₁ x₁ r₁ h₁=>?_)
 obtain ⟨l,σ₂,hi,hz,h₂⟩:=h₁
 refine hi A p₁ u _ R.hd R.units b₁.I r₁ fun p₂ c x₂ I₂=>?_
 have b₂:=b₁.ext x₂ I₂
 refine comp_at O L htk R b₂ hz h₂ (RR:=fun acc C'=>compPost (model C.Q.prog C.Q.w) A (fun _ _=>False) none _ acc C') fun D C' q acc σ' x I' F' g hΦ hDC hDn hCn=>?_
 obtain ⟨⟨mC,hnC⟩,f1,f2,f3⟩:=F'
 refine ⟨mC,hnC,fun h' hs'=>?_⟩
 have kC:∀ b o,b∉[C']→q.s.heap.get? b=some o→h'.get? b=some o:=fun b o hb q=>(hs'.2 b fun z=>hb (z▸.head _)).trans q
 have I₃:=I'.loose (wr:=[C']) (all1 ⟨f1,f2,f3⟩ all0) kC
 have x₃:Bh none p₂ ⟨q.W,{ q.s with heap:=h',toks:=q.s.toks }⟩:=x.turned hCn kC
 obtain ⟨vs,z,e,hv⟩:=g.at_
 have eD:=kC D _ (fun q=>hDC (List.mem_singleton.mp q)) e
 have I₄:=I₃.adopt (D:=D) (c:=.lst acc) g.own g.F g.base ⟨_,eD⟩ ⟨vs,z,eD,hv,Wd.add_self⟩
 have x₄:=x₃.adopt hDn
 exact k ρ₁ _ ⟨_,_⟩ _ _ (b₂.ext x₄ I₄) (x₁.trans (x₂.trans x₄).wide) (.ref _) (hΦ D)
theorem EnvOk.bk {sc:Scope} {cs:List (Str × Addr)} {env:Env} (E:EnvOk env sc cs):env.blockKind=.function:=by rw [Env.blockKind,E.scp,E.kind];rfl
theorem swaps_yes {sc:Scope} {cs:List (Str × Addr)} {env:Env} (E:EnvOk env sc cs) {elt:Expr} {gens:List Comprehension} {py:Pos} {y:Str} {ln:Nat}
  (h:(sc.names.lookup y==some .local&&py.line==pos.line&&!(scope.names.any fun (n,k)=>n==y&&(k==.local || k==.cell)))=true):swapsWith (.ListComp elt gens scope pos) (some (.Name y py)) ln env=pure true:=by
 have:∀ x,env.kindOf x=sc.names.lookup x:=fun x=>by show env.scope.names.lookup x=_;rw [E.scp]
 show pure (env.blockKind==.function&&env.kindOf y==some .local&&py.line==pos.line&&!(scope.names.any fun (n,k)=>n==y&&(k==.local || k==.cell)))=pure true
 rw [E.bk,this]
 exact congrArg pure h
theorem s_asC (O:Cok C sc) (L:LcOk C sc scope ns cn ca gs) (htk:tkOf tg=some tk) {i:Nat} {py spos:Pos} {K:Ks}
  (hsw:(sc.names.lookup (C.ns.getD i "")==some .local&&py.line==pos.line&&!(scope.names.any fun (n,k)=>n==C.ns.getD i ""&&(k==.local || k==.cell)))=true)
  (h:runE C g .e it ρ σ fun o ρ σ=>bif Nat.blt i ρ.length then IterS C.Q σ o tk fun l σ=>l.length≤2^23∧∀ cenv,CompR ⟨C.Q,C.n,cenv,ns,cn,ca,false,gs⟩ f tg elt ifs l σ fun acc σ=>∀ D,K .next (ρ.set i (some (.ref D))) ((D,.lst acc)::σ) else False):
  WS C.Q C.n C.env (.Assign [.Name (C.ns.getD i "") py] (.ListComp (hd (den ns cn elt)) [⟨hd (den ns cn tg),C.E it,den ns cn ifs,0⟩] scope pos) spos) ρ σ K:=fun A p G R a k=>by
 obtain ⟨q1,q2,q3,q4⟩:=scopeOk_ok L.hsc
 show WP C.Q A (exec (.Assign [.Name (C.ns.getD i "") py] (.ListComp (hd (den ns cn elt)) [⟨hd (den ns cn tg),C.E it,den ns cn ifs,0⟩] scope pos) spos) C.env) _ p.s
 rw [exec_Assign_Name_used _ _ _ _ (swaps_yes O.E hsw)]
 refine wpAny_bind (wpAny_standAt (wpAny_bind ?_))
 show WP C.Q A (do let _ ← comprehension (.ListComp (hd (den ns cn elt)) [⟨hd (den ns cn tg),C.E it,den ns cn ifs,0⟩] scope pos) scope C.env _ (newList []) false (eval (C.E it) C.env) (some (assign (.Name (C.ns.getD i "") py) C.env))) _ _
 have h1:WE C.Q C.n C.env (C.E it) ρ σ _:=runE_ok O g .e it ρ σ _ h
 refine wpAny_bind (wpAny_comprehension_free (use:=some (assign (.Name (C.ns.getD i "") py) C.env)) rfl (ok_fold (ok_hd ..)) (closure_eq O.E q1) q4 q3 (h1 A p _ R a fun ρ₁ σ₁ p₁ u o b₁ x₁ r₁ h₁=>?_))
 obtain ⟨hb,l,σ₂,hi,hz,h₂⟩:=bif_true h₁
 refine hi A p₁ u _ R.hd R.units b₁.I r₁ fun p₂ c x₂ I₂=>?_
 have b₂:=b₁.ext x₂ I₂
 refine comp_at O L htk R b₂ hz h₂ (RR:=fun acc C'=>compPost (model C.Q.prog C.Q.w) A (fun _ _=>False) (some (assign (.Name (C.ns.getD i "") py) C.env)) _ acc C') fun D C' q acc σ' x I' F' g hΦ hDC hDn hCn=>?_
 obtain ⟨⟨mC,hnC⟩,f1,f2,f3⟩:=F'
 obtain ⟨vs,z,e,hv⟩:=g.at_
 have I₄:=I'.adopt (D:=D) (c:=.lst acc) g.own g.F g.base ⟨_,e⟩ ⟨vs,z,e,hv,Wd.add_self⟩
 have x₄:=x.adopt hDn
 have b₄:=b₂.ext x₄ I₄
 have hLC:C'≠C.env.locals:=fun q=>by obtain ⟨m,⟨o,_,_,ho,_⟩,_⟩:=b₂.F.ns;rw [q,ho] at hCn;cases hCn
 obtain ⟨y1,y2⟩:=ns_at O b₄ (Nat.le_of_ble_eq_true hb)
 show WP C.Q A (standAt py>>=fun _=>bindName C.env (C.ns.getD i "") (.ref D)) _ _
 refine wpAny_bind (wpAny_standAt (wpAny_bindName (store_local (p:=⟨q.W.add D,q.s⟩) O.E (O.ns.symm▸O.nd) y1 (O.loc _ y2).1 b₄ (V.ref D) fun r b₅ x₅=>?_)))
 obtain ⟨oC,es,ep,hoC,rC⟩:=hnC
 obtain ⟨u1,u2,_,u4⟩:=x₅.un C' oC ((Wd.add_ne (Ne.symm hDC)).trans f1) hoC
 have hoC':=u4 fun q=>hLC (Option.some.inj q)
 refine ⟨mC,⟨oC,es,ep,hoC',rC⟩,fun h' hs'=>?_⟩
 have kC:∀ b o,b∉[C']→r.s.heap.get? b=some o→h'.get? b=some o:=fun b o hb q=>(hs'.2 b fun z=>hb (z▸.head _)).trans q
 have b₆:At C.Q C.env _ _ ⟨r.W,{ r.s with heap:=h',toks:=r.s.toks }⟩:=b₅.loose (wr:=[C']) (all1 ⟨u1,u2 f2,f3⟩ all0) (fun q=>hLC (List.mem_singleton.mp q).symm) kC
 have x₆:Bh (some C.env.locals) p₂ ⟨r.W,{ r.s with heap:=h',toks:=r.s.toks }⟩:=(x₄.wide.trans x₅).turned hCn kC
 exact wpAny_pure (wpAny_pure (k _ _ ⟨_,_⟩ _ _ b₆ ((x₁.trans x₂.wide).trans x₆) .next (hΦ D)))
end
end
section
open Builtin Builtin.ObjectAttr
noncomputable def bindK (fd:FuncData) (vs:List Value):Option (Array Value)→Sem (List (Str × Value)):=(⟨_,rfl⟩:{k // bindArgs fd ⟨vs,[]⟩=seqItems? fd.defaults>>=k}).1
noncomputable def BindD (P:Arguments) (pn:List Str) (na nd c:Nat):Prop:=∀ (fd:FuncData) (vs items:List Value) (T:Addr),fd.params=P→fd.defaults=.ref T→vs.length=na→items.length=nd→bindK fd vs (some items.toArray)=pure (pn.zip (vs++items.drop c))
theorem fd_eqD {fd:FuncData} {P:Arguments} {T:Addr} (h:fd.params=P) (h':fd.defaults=.ref T):fd={ fd with params:=P,defaults:=.ref T }:=by subst h;rw [← h']
theorem bindDN {P:Arguments} {pn:List Str} {na nd c:Nat} (h:∀ (fd:FuncData) (T:Addr),AllN na fun vs=>AllN nd fun items:List Value=>bindK { fd with params:=P,defaults:=.ref T } vs (some items.toArray)=pure (pn.zip (vs++items.drop c))):BindD P pn na nd c:=fun fd vs items T e e' l m=>by
 rw [fd_eqD e e']
 exact allN _ (allN _ (h fd T) l) m
section
variable {Q:Bt} {n:Nat} {σ σ':St} {Φ:AV→St→Prop} {f:Addr} {args:List AV}
theorem FnD.fits {P:Arguments} {body:List Stmt} {sc:Scope} {ds:List AV} {pn:List Str} {na nd c:Nat} (hf:FnD Q f P body sc ds) (hb:BindD P pn na nd c) (hl:args.length=na) (hd:ds.length=nd):Fits Q σ f args (.stmts body) sc [] pn (args++ds.drop c):=fun p vs I hv=>by
 obtain ⟨o,fd,T,ot,items,m,g,d,cr,e1,e2,e3,e4,e5,e6,e7,gT,hs,hvd⟩:=hf
 have hv':=hvd p.W.F
 exact ⟨o,fd,_,I.keepB _ _ g,d,cr.keeps I.keepB,e2,e3,e4,e5,e6,.of_defaults e7 (I.keepB _ _ gT) hs (k:=bindK fd vs) rfl (hb fd vs items.toList T e1 e7 ((vl_len hv).trans hl) ((vl_len hv').trans hd)),vl_app (vl_drop c hv') hv⟩
structure DOk (s:Stmt) (t:T) (ns pn rs:List Str) (gs:List Nat) (na nd c:Nat):Prop where
 hb:BindD (prS s) pn na nd c
 ho:fOk (scS s) ns [] gs=true
 en:ns=pn++rs
 hc:(scS s).names.all (fun x=>x.2 != .cell)=true
 ht:bdS s=dnS ns [] t
theorem names_no {sc:Scope} (h:sc.names.all (fun x=>x.2 != .cell)=true):∀ x∈sc.names,x.2≠.cell:=fun x m=>bne_iff_ne.mp (List.all_eq_true.mp h x m)
theorem DOk.wk (X:Cx Q) {i:Nat} {t:T} {ns pn rs:List Str} {gs:List Nat} {na nd c:Nat} {ds:List AV} (h:DOk (mth i 0) t ns pn rs gs na nd c) (hi:(i,ds)∈indTab) (hl:args.length+1=na) (hd:ds.length=nd) (hp:na+(ds.drop c).length=pn.length)
  (k:∀ a env,EnvOk env (scS (mth i 0)) []→runS (cF ns gs Q n env) 100 true t (fr0 ns (.ref a::(args++ds.drop c))) ((a,.inst i [])::σ) (retO (inO a Φ))):WC Q (n+2) (.ref (cT i)) args σ Φ:=by
 obtain ⟨f,h1,h2⟩:=X.inD (i,ds) hi
 have o:=fOk_ok h.ho
 refine w_cls X h1 fun a=>wd_def X (FnD.fits (args:=.ref a::args) h2 h.hb hl hd) o h.en (names_no h.hc) (by rw [List.length_append,List.length_cons,hl];exact hp) fun env E=>?_
 rw [h.ht]
 exact runS_ok (C:=(cF ns gs Q n env)) ⟨X,E,o.eq,o.loc,o.nd,(fun _ m=>nomatch m),(fun _ _ m=>nomatch m),List.nodup_nil,rfl,o.gl⟩ 100 true t _ _ _ (k a env E)
structure ClOk (P:Arguments) (sc:Scope) (ns pn rs cn:List Str) (gs:List Nat):Prop where
 hb:BindP P pn
 ho:fOk sc ns [] gs=true
 hk:cOk sc ns cn gs=true
 en:ns=pn++rs
 hc:sc.names.all (fun x=>x.2 != .cell)=true
theorem fnc_fits {P:Arguments} {b:FuncBody} {sc:Scope} {cl:List (Str × Addr)} {pn:List Str} (hc:(f,Cell.fnc P b sc cl)∈σ) (hb:BindP P pn) (hl:args.length=pn.length):Fits Q σ f args b sc cl pn args:=fun p vs I hv=>by
 obtain ⟨o,fd,ho,hd,hcdf,e1,e2,e3,e4,e5,e6,e7,ow⟩:=I.cells _ hc
 exact ⟨o,fd,vs,ho,hd,hcdf.at I.frz,e2,e3,e4,e5,e6,.of_eq (hb fd vs e1 e7 ((vl_len hv).trans hl)),hv⟩
theorem ClOk.wc (X:Cx Q) {P:Arguments} {body:List Stmt} {sc:Scope} {cl:List (Str × Addr)} {t:T} {ns pn rs cn:List Str} {ca:List Addr} {gs:List Nat} (h:ClOk P sc ns pn rs cn gs) (ht:body=dnS ns cn t) (hc:(f,Cell.fnc P (.stmts body) sc cl)∈σ) (ecl:cl=cn.zip ca) (hca:cn.length=ca.length) (hl:args.length=pn.length)
  (k:∀ env,EnvOk env sc cl→runS ⟨Q,n,env,ns,cn,ca,false,gs⟩ 100 true t (fr0 ns args) σ (retO Φ)):WC Q (n+1) (.ref f) args σ Φ:=by
 refine WD.wc (wd_def X (fnc_fits hc h.hb hl) (fOk_ok h.ho) h.en (names_no h.hc) hl fun env E=>?_)
 rw [ht]
 exact runS_ok (cOk_ok X (ecl▸E) hca h.hk) 100 true t _ _ _ (k env E)
theorem ClOk.wl (X:Cx Q) {P:Arguments} {body:Expr} {sc:Scope} {cl:List (Str × Addr)} {t:T} {ns pn rs cn:List Str} {ca:List Addr} {gs:List Nat} (h:ClOk P sc ns pn rs cn gs) (ht:body=hd (den ns cn t)) (hc:(f,Cell.fnc P (.expr body) sc cl)∈σ) (ecl:cl=cn.zip ca) (hca:cn.length=ca.length) (hl:args.length=pn.length)
  (k:∀ env,runE ⟨Q,n,env,ns,cn,ca,false,gs⟩ 100 .e t (fr0 ns args) σ fun d ρ σ=>Φ d σ):WC Q (n+1) (.ref f) args σ Φ:=fun A p vs G R I hv kk=>by
 obtain ⟨o,fd,vs',g,hd,hcd,e2,e3,e4,e5,e6,hb,hv⟩:=fnc_fits hc h.hb hl p vs I hv
 have ho:=fOk_ok h.ho
 have hnl:∀ x∈pn,x∈ns:=fun x m=>h.en▸List.mem_append_left _ m
 have hE:EnvOk (callEnv fd p.s.heap.objs.size f) sc cl:=⟨e3,e4,e5,ho.kd,e6⟩
 refine wpAny_call (kla_callFunE R.room g hd (by rw [e3];exact ho.co) (by rw [e3];exact ho.ge) e2 hcd (hb _ _ _ _ ?_))
 refine wpAny_newFunctionEnv (by rw [e3];exact names_no h.hc) (fun x hx=>by rw [e3];exact (ho.loc x.1 (hnl _ (by obtain ⟨a,b⟩:=x;exact (List.of_mem_zip hx).1))).1) (fun h₁ hns hsb=>⟨(X.lim.keeps I.keepB).fresh _ hsb,?_⟩) (by rw [e3];exact ho.kd)
 have hk:∀ b o,p.s.heap.get? b=some o→h₁.get? b=some o:=fun b o e=>hsb.extBut b o (Nat.ne_of_lt (Heap.lt_size e)) (Heap.get?_push_of_some _ e)
 show codeAny _ _ (.expr body (callEnv fd p.s.heap.objs.size f)) _ _
 have key:WE Q n (callEnv fd p.s.heap.objs.size f) body (fr0 ns args) σ fun d ρ σ=>Φ d σ:=by
  rw [ht]
  exact runE_ok (cOk_ok X (ecl▸hE) hca h.hk) 100 .e t _ _ _ (k _)
 exact kla_codeExpr (key (A.deeper (callEnv fd p.s.heap.objs.size f)) _ _ (R.deeper _) (fr0_ok (f:=f) I e3 ho h.en hl hv hns hk) fun ρ' σ' q' v d a x r hΦ=>kk σ' q' v d a.I (x.leave rfl hk rfl rfl rfl) r hΦ).any
end
theorem codeAmong_app {pos p:Pos} {c cv:Value} (l:List Value) (ht:TriplesOk l) (h:codeAmong p (l++[rawInt pos.line,rawInt pos.col,c])=some cv):codeAmong p l=some cv∨cv=c:=by
 fun_induction TriplesOk l with
 | case1=>
  simp only [List.nil_append,codeAmong,rawInt] at h
  split at h
  ·exact .inr (Option.some.inj h).symm
  ·cases h
 | case2 a t b u x rest ih=>
  simp only [List.cons_append,codeAmong] at h ⊢
  split at h
  ·rename_i q;rw [if_pos q];exact .inl h
  ·rename_i q;rw [if_neg q];exact ih ht h
 | case3 l h1 h2=>exact ht.elim
section
variable {Q:Bt} {σ σ':St} {W:Wd} {h:Heap} {p:Po}
theorem TakeC.of {a:Addr} {c:Cell} (h:(a,c)∈σ):∃ σ',TakeC σ a c σ':=by
 induction σ with
 | nil=>first|exact ffE h|exact tfE h|exact noE h|cases h
 | cons x r ih=>
  rcases List.mem_cons.mp h with rfl|h
  ·exact ⟨_,.here⟩
  ·obtain ⟨σ',h⟩:=ih h;exact ⟨_,.there h⟩
theorem Inv.freezeAt {a:Addr} {o:Obj} (I:Inv Q W σ h) (e:h.get? a=some o) (h1:W.own a=none) (h2:W.F a=none):Inv Q (W.freeze a o) σ h:=
 ⟨fun b x q=>by
   have q':(if b=a then some o else W.F b)=some x:=q
   split at q'
   ·rename_i z;cases q';rw [z];exact e
   ·exact I.frz b x q',
  fun b x q=>by
   have q':(if b=a then some o else W.F b)=some x:=q
   split at q'
   ·rename_i z;rw [z];exact h1
   ·exact I.frzO b x q',
  I.live,fun p hp=>(I.cells p hp).keep (Wd.freeze_le h2) (fun _ e=>e) (fun b o _ e=>e) (fun b o e=>I.frz b o e),I.nd,I.base⟩
structure FdIs (fd:FuncData) (q:Str) (cv:Value) (params:Arguments) (body:FuncBody) (scope:Scope) (cl:List (Str × Addr)):Prop where
 f1:fd.code=cv
 f2:fd.qualname=q
 f3:fd.params=params
 f4:fd.body=body
 f5:fd.scope=scope
 f6:fd.globals=mainGlobals
 f7:fd.builtins=builtinsNs
 f8:fd.closure=cl
 f9:fd.defaults=.none
theorem FdIs.cell {fd:FuncData} {q:Str} {cv:Value} {params:Arguments} {body:FuncBody} {scope:Scope} {cl:List (Str × Addr)} {fo:Obj} {h':Heap} {W:Wd} (x:FdIs fd q cv params body scope cl) (hfr:fo.isFreed=false) (hfo:fo.data=.func fd) (hc:CdF W.F cv q):CellAt Q (W.add h'.objs.size) (h'.push fo) h'.objs.size (.fnc params body scope cl):=
 ⟨fo,fd,Heap.get?_push_size _ hfr,hfo,by rw [x.f1,x.f2];exact hc,x.f3,x.f4,x.f5,x.f6,x.f7,x.f8,x.f9,Wd.add_self⟩
theorem code_made {h':Heap} {tk:Nat} {P c':Addr} {q:Str} {ps:Array Value} {pos:Pos} {params:Arguments} {body:FuncBody} {scope:Scope} {cl:List (Str × Addr)} {fo:Obj} {fd:FuncData} (I:Inv Q p.W σ p.s.heap) (hP:(P,Cell.tab q)∈σ)
  (hPs:p.s.heap.get? P=some (tabObj ps)) (ht:TriplesOk ps.toList) (hall:∀ pos cv,codeAmong pos ps.toList=some cv→CdF p.W.F cv q)
  (hx:Heap.ExtBut P p.s.heap h') (hge:@LE.le Nat _ p.s.heap.objs.size c') (hrec:h'.CodeRec (.ref c') q) (htb:h'.get? P=some (tabObj (ps++#[rawInt pos.line,rawInt pos.col,.ref c'])))
  (hfr:fo.isFreed=false) (hfo:fo.data=.func fd) (hfd:FdIs fd q (.ref c') params body scope cl):
  ∃ W',Bh none p ⟨W',{ p.s with heap:=h'.push fo,toks:=tk }⟩∧Inv Q W' ((h'.objs.size,.fnc params body scope cl)::σ) (h'.push fo):=by
 obtain ⟨σ₀,tk₀⟩:=TakeC.of hP
 have I₁:=I.perm tk₀.perm
 have oP:p.W.own P=some P:=(I₁.cells _ (.head _)).owned
 obtain ⟨c₂,oc,vs,t,e2,hoc,hd,hv⟩:=hrec
 cases e2
 have kP:∀ b o,p.W.own b≠some P→p.s.heap.get? b=some o→h'.get? b=some o:=fun b o hb e=>hx b o (fun q=>hb (by rw [q];exact oP)) e
 have nob:=I.nob (D:=c') (by
  cases e:p.s.heap.get? c' with
  | none=>rfl
  | some o=>exact absurd (Heap.lt_size e) (Nat.not_lt.mpr hge))
 have nd:=List.nodup_cons.mp I₁.nd
 have kF:∀ b o,p.W.F b=some o→h'.get? b=some o:=fun b o e=>kP b o (by rw [I.frzO b o e];exact nofun) (I.frz b o e)
 have I₂:Inv Q p.W σ₀ h':=⟨kF,I.frzO,fun b x e=>by
   obtain ⟨o,g⟩:=I.live b x e
   by_cases q:b=P
   ·rw [q];exact ⟨_,htb⟩
   ·exact ⟨o,hx b o q g⟩,fun y hy=>(I₁.cells y (.tail _ hy)).keep (FLe.refl _) (fun _ e=>e) (fun b o e g=>kP b o (by rw [e];exact fun q=>ne_of_nd I₁.nd hy (Option.some.inj q)) g) kF,nd.2,fun b o e=>⟨kP b o (by rw [(I.base b o e).2];exact nofun) (I.base b o e).1,(I.base b o e).2⟩⟩
 have I₃:=I₂.freezeAt hoc nob.1 nob.2.1
 have le:=Wd.freeze_le (W:=p.W) (a:=c') (o:=oc) nob.2.1
 have hcd:CdF (p.W.freeze c' oc).F (.ref c') q:=⟨c',oc,vs,t,rfl,Wd.freeze_self,hd,hv⟩
 have hcP:CellAt Q (p.W.freeze c' oc) h' P (.tab q):=by
  refine ⟨_,htb,?_,fun p cv e=>?_,oP⟩
  ·rw [Array.toList_append];exact TriplesOk_snoc _ _ _ _ ht
  ·rw [Array.toList_append] at e
   rcases codeAmong_app _ ht e with e|e
   ·exact (hall p cv e).mono le
   ·exact e▸hcd
 have I₄:Inv Q (p.W.freeze c' oc) ((P,.tab q)::σ₀) h':=⟨I₃.frz,I₃.frzO,I₃.live,fun y hy=>(List.mem_cons.mp hy).elim (fun e=>e▸hcP) (I₃.cells y),List.nodup_cons.mpr nd,I₃.base⟩
 have I₅:=I₄.perm tk₀.perm.symm
 refine ⟨(p.W.freeze c' oc).add h'.objs.size,⟨le,fun b o e g=>?_,rfl,rfl,rfl⟩,I₅.pushC (c:=.fnc params body scope cl) hfr (hfd.cell hfr hfo hcd)⟩
 have gb:h'.get? b=some o:=kP b o (by rw [e];exact nofun) g
 refine ⟨(Wd.add_ne (Nat.ne_of_lt (Heap.lt_size gb))).trans e,fun z=>?_,⟨o,Heap.get?_push_of_some _ gb⟩,fun _=>Heap.get?_push_of_some _ gb⟩
 show (if b=c' then some oc else p.W.F b)=none
 rw [if_neg fun (q:b=c')=>absurd hge (Nat.not_le.mpr (q▸Heap.lt_size g))]
 exact z
theorem code_hit {h':Heap} {tk:Nat} {cv:Value} {q:Str} {params:Arguments} {body:FuncBody} {scope:Scope} {cl:List (Str × Addr)} {fo:Obj} {fd:FuncData} (I:Inv Q p.W σ p.s.heap)
  (hcv:CdF p.W.F cv q) (hk:∀ b o,p.s.heap.get? b=some o→h'.get? b=some o) (hfr:fo.isFreed=false) (hfo:fo.data=.func fd) (hfd:FdIs fd q cv params body scope cl):
  ∃ W',Bh none p ⟨W',{ p.s with heap:=h'.push fo,toks:=tk }⟩∧Inv Q W' ((h'.objs.size,.fnc params body scope cl)::σ) (h'.push fo):=
 have x₁:Bh none p ⟨p.W,{ p.s with heap:=h' }⟩:=Ext.keeps hk rfl rfl rfl
 have x₂:Bh none ⟨p.W,{ p.s with heap:=h' }⟩ ⟨p.W.add h'.objs.size,{ p.s with heap:=h'.push fo,toks:=tk }⟩:=Ext.pushC p.W { p.s with heap:=h' } fo tk
 ⟨_,x₁.trans x₂,(I.keeps hk).pushC (c:=.fnc params body scope cl) hfr (hfd.cell hfr hfo hcv)⟩
theorem bt_at (X:Cx Q) {P:Addr} (I:Inv Q W σ h) (hP:W.own P≠none):h.BuiltinsAt Q.mg P:=by
 obtain ⟨bm,ob,b1,b2,b3,b4,b5,b6⟩:=X.Bm
 refine ⟨bm,ob,b1,b2,fun q=>?_,fun q=>hP (by rw [← q];exact (I.base _ _ b3).2),I.keepB _ _ b3,b4,b5,b6⟩
 obtain ⟨o,es,ep,e,hd,r⟩:=X.g
 rw [q,e] at b3;cases b3
 rw [b6] at hd;cases hd
theorem mg_ne (X:Cx Q) {P:Addr} (I:Inv Q W σ h) (ow:W.own P=some P):mainGlobals≠P:=fun q=>by
 obtain ⟨o,es,ep,e,r⟩:=X.g
 have:=(I.base _ _ e).2
 rw [q,ow] at this;cases this
structure TabAt (Q:Bt) (env:Env) (σ:St) (P:Addr) (q:Str):Prop where
 code:∃ c,env.code=.ref c∧CodeHd Q.hB c P
 cell:(P,Cell.tab q)∈σ
variable {n:Nat} {env:Env} {sc:Scope} {cs:List (Str × Addr)} {ρ:Rho}
theorem e_lambda (X:Cx Q) (E:EnvOk env sc cs) {params:Arguments} {body:Expr} {scope:Scope} {pos:Pos} {P:Addr} {q:Str} {K:Kt} (T:TabAt Q env σ P q) (hq:env.qual++"<lambda>"=q)
  (hdef:defaultsOf params env=([],[])) (hfree:(scope.names.all fun x=>x.2 != .free || (cs.lookup x.1).isSome)=true)
  (h:∀ f,K (.ref f) ρ ((f,.fnc params (.expr body) scope (cloFor scope cs))::σ)):WE Q n env (.Lambda params body scope pos) ρ σ K:=fun A p G R a k=>by
 have I:=a.I
 obtain ⟨⟨c,hcode,hcd⟩,hP⟩:=T
 obtain ⟨ps,hPs,ht,hall,ow⟩:=I.cells _ hP
 have hcl:=closure_eq E hfree
 have hg:=X.g.keeps I.keepB
 have hb:=bt_at X I (P:=P) (by rw [ow];exact nofun)
 refine kla_eval hdef ?_
 rw [hq]
 cases hf:codeAmong pos ps.toList with
 | none=>
  refine kla_makeFunction hcl E.glob hg hcode (hcd.keeps I.keepB) hPs ht hf (mg_ne X I ow) hb fun c' ctv h' tk hx hge hlt hrec htb=>?_
  obtain ⟨W',x,I'⟩:=code_made (tk:=tk) (fo:=kla_obj "<lambda>" q params body scope (cloFor scope cs) ((Q.mg "__name__").getD .none) c' ctv) (params:=params) (body:=.expr body) (scope:=scope) (cl:=cloFor scope cs) I hP hPs ht hall hx hge hrec htb rfl rfl ⟨rfl,rfl,rfl,rfl,rfl,rfl,rfl,rfl,rfl⟩
  exact k ρ _ ⟨W',_⟩ _ _ (a.ext x I') x.wide (.ref _) (h _)
 | some cv=>
  refine kla_makeFunctionHit hcl E.glob hg hcode (hcd.keeps I.keepB) hPs ht hf hb fun ctv h' tk hk hsz=>?_
  obtain ⟨W',x,I'⟩:=code_hit (tk:=tk) (fo:={ cls:=.type "function",data:=.func (kla_fn "<lambda>" q params body scope (cloFor scope cs) ((Q.mg "__name__").getD .none) cv ctv) }) (params:=params) (body:=.expr body) (scope:=scope) (cl:=cloFor scope cs) I (hall _ _ hf) hk rfl rfl ⟨rfl,rfl,rfl,rfl,rfl,rfl,rfl,rfl,rfl⟩
  exact k ρ _ ⟨W',_⟩ _ _ (a.ext x I') x.wide (.ref _) (h _)
theorem s_def {C:Cn} (O:Cok C sc) {i:Nat} {params:Arguments} {body:List Stmt} {scope:Scope} {pos:Pos} {P:Addr} {q:Str} {K:Ks} (T:TabAt C.Q C.env σ P q) (hq:qualnameIn C.env (C.ns.getD i "") (C.ns.getD i "")=q)
  (hd0:params.defaults=[]) (hk0:params.kw_defaults=[]) (ha:annTrees params none C.env=[]) (hfree:(scope.names.all fun x=>x.2 != .free || ((C.cn.zip C.ca).lookup x.1).isSome)=true)
  (h:bif Nat.blt i ρ.length then ∀ f,K .next (ρ.set i (some (.ref f))) ((f,.fnc params (.stmts body) scope (cloFor scope (C.cn.zip C.ca)))::σ) else False):WS C.Q C.n C.env (.FunctionDef (C.ns.getD i "") params body [] none [] scope none (C.ns.getD i "") pos) ρ σ K:=fun A p G R a k=>by
 have I:=a.I
 have X:=O.X
 obtain ⟨⟨c,hcode,hcd⟩,hP⟩:=T
 obtain ⟨ps,hPs,ht,hall,ow⟩:=I.cells _ hP
 have hcl:=closure_eq O.E hfree
 have hg:=X.g.keeps I.keepB
 have hb:=bt_at X I (P:=P) (by rw [ow];exact nofun)
 obtain ⟨hi,h⟩:=bif_true h
 have fin:∀ (f:Addr) (q:Po),Bh none p q→Inv C.Q q.W ((f,.fnc params (.stmts body) scope (cloFor scope (C.cn.zip C.ca)))::σ) q.s.heap→WP C.Q A (storeName C.env (C.ns.getD i "") (.ref f)) (fun _ s=>G .next s) q.s:=fun f q x I'=>by
  obtain ⟨y1,y2⟩:=ns_at O a (Nat.le_of_ble_eq_true hi)
  exact store_local O.E (O.ns.symm▸O.nd) y1 (O.loc _ y2).1 (a.ext x I') (V.ref f) fun r b₅ x₅=>k _ _ r _ _ b₅ (x.wide.trans x₅) .next (h f)
 refine nestDef_K hd0 hk0 ha ?_
 rw [hq]
 cases hf:codeAmong pos ps.toList with
 | none=>
  refine makeFunction_K hcl O.E.glob hg hcode (hcd.keeps I.keepB) hPs ht hf (mg_ne X I ow) hb fun c' ctv doc h' tk hx hge hlt hrec htb=>?_
  obtain ⟨W',x,I'⟩:=code_made (tk:=tk) (fo:=fnMade (C.ns.getD i "") q params body scope (cloFor scope (C.cn.zip C.ca)) doc ((C.Q.mg "__name__").getD .none) c' ctv) (params:=params) (body:=.stmts body) (scope:=scope) (cl:=cloFor scope (C.cn.zip C.ca)) I hP hPs ht hall hx hge hrec htb rfl rfl ⟨rfl,rfl,rfl,rfl,rfl,rfl,rfl,rfl,rfl⟩
  exact fin _ ⟨W',_⟩ x I'
 | some cv=>
  refine makeFunction_hit hcl O.E.glob hg hcode (hcd.keeps I.keepB) hPs ht hf hb fun ctv doc h' tk hk hsz=>?_
  obtain ⟨W',x,I'⟩:=code_hit (tk:=tk) (fo:={ cls:=.type "function",data:=.func (fnX (C.ns.getD i "") q params body scope (cloFor scope (C.cn.zip C.ca)) .none .none doc ((C.Q.mg "__name__").getD .none) none cv ctv) }) (params:=params) (body:=.stmts body) (scope:=scope) (cl:=cloFor scope (C.cn.zip C.ca)) I (hall _ _ hf) hk rfl rfl ⟨rfl,rfl,rfl,rfl,rfl,rfl,rfl,rfl,rfl⟩
  exact fin _ ⟨W',_⟩ x I'
end
end
section
open Builtin Builtin.ObjectAttr
set_option tactic.hygienic false
theorem lk_mem {β:Type} {x:Str} {v:β} {l:List (Str × β)} (h:l.lookup x=some v):(x,v)∈l:=by
 induction l with
 | nil=>first|exact ffE h|exact tfE h|exact noE h|cases h
 | cons p l ih=>
  rw [List.lookup_cons] at h
  cases hb:x==p.1 with
  | true=>rw [hb] at h;cases h;rw [beq_iff_eq.mp hb];exact .head _
  | false=>rw [hb] at h;exact .tail _ (ih h)
theorem lk_none {β:Type} {x:Str} {l:List (Str × β)} (h:l.lookup x=none):x∉l.map (·.1):=by
 induction l with
 | nil=>exact List.not_mem_nil
 | cons p l ih=>
  rw [List.lookup_cons] at h
  cases hb:x==p.1 with
  | true=>rw [hb] at h;cases h
  | false=>
   rw [hb] at h
   exact fun q=>(List.mem_cons.mp q).elim (fun e=>absurd e (beq_eq_false_iff_ne.mp hb)) (ih h)
theorem zip_look {Q:Bt} {F:FH} {pn:List Str} {vs:List Value} {args:List AV} (hv:VL Q F vs args) (x:Str):VO Q F ((pn.zip vs).lookup x) ((pn.zip args).lookup x):=by
 induction pn generalizing vs args with
 | nil=>exact .none
 | cons n pn ih=>
  cases args with
  | nil=>cases vl_0 hv;exact .none
  | cons d ds=>
   obtain ⟨v,vs,rfl,h,r⟩:=vl_c hv
   rw [List.zip_cons_cons,List.zip_cons_cons,List.lookup_cons,List.lookup_cons]
   cases x==n with
   | true=>exact .some h
   | false=>exact ih r
theorem cellsFrom_names {names:List (Str × NameKind)} {b b':Nat} {acc acc':List (Str × Addr)} (h:acc.map (·.1)=acc'.map (·.1)):(cellsFrom b names acc).map (·.1)=(cellsFrom b' names acc').map (·.1):=by
 induction names generalizing b b' acc acc' with
 | nil=>exact h
 | cons p r ih=>
  unfold cellsFrom
  split
  ·exact ih (by rw [List.map_cons,List.map_cons,h])
  ·exact ih h
theorem lookup_nd' {β:Type} {x:Str × β} {l:List (Str × β)} (nd:(l.map (·.1)).Nodup) (h:x∈l):l.lookup x.1=some x.2:=by
 induction l with
 | nil=>first|exact ffE h|exact tfE h|exact noE h|cases h
 | cons p l ih=>
  rw [List.map_cons,List.nodup_cons] at nd
  rw [List.lookup_cons]
  rcases List.mem_cons.mp h with rfl|h
  ·rw [beq_self_eq_true]
  ·rw [beq_eq_false_iff_ne.mpr (fun e:x.1=p.1=>nd.1 (e▸(List.mem_map_of_mem h:x.1∈l.map (·.1))))]
   exact ih nd.2 h
noncomputable def cnames (sc:Scope):List Str:=(cellsFrom 0 sc.names []).map (·.1)
section
variable {k:Str→Option NameKind} {x:Str} {v:Value} {l:List (Str × Value)} {m:Str→Option Value}
theorem bindL_skip (h:x∉l.map (·.1)):bindL k l m x=m x:=by
 induction l generalizing m with
 | nil=>rfl
 | cons p r ih=>
  rw [List.map_cons,List.mem_cons,not_or] at h
  unfold bindL
  rw [ih h.2]
  split
  ·exact if_neg h.1
  ·rfl
theorem bindL_of (hk:k x=some .local) (nd:(l.map (·.1)).Nodup) (h:(x,v)∈l):bindL k l m x=some v:=by
 induction l generalizing m with
 | nil=>first|exact ffE h|exact tfE h|exact noE h|cases h
 | cons p r ih=>
  rw [List.map_cons,List.nodup_cons] at nd
  unfold bindL
  rcases List.mem_cons.mp h with rfl|h
  ·rw [bindL_skip nd.1,if_pos hk,if_pos rfl]
  ·exact ih nd.2 h
theorem bindC_skip (h:x∉l.map (·.1)):bindC k l m x=m x:=by
 induction l generalizing m with
 | nil=>rfl
 | cons p r ih=>
  rw [List.map_cons,List.mem_cons,not_or] at h
  unfold bindC
  rw [ih h.2]
  split
  ·rfl
  ·exact if_neg h.1
theorem bindC_of (hk:k x≠some .local) (nd:(l.map (·.1)).Nodup) (h:(x,v)∈l):bindC k l m x=some v:=by
 induction l generalizing m with
 | nil=>first|exact ffE h|exact tfE h|exact noE h|cases h
 | cons p r ih=>
  rw [List.map_cons,List.nodup_cons] at nd
  unfold bindC
  rcases List.mem_cons.mp h with rfl|h
  ·rw [bindC_skip nd.1,if_neg hk,if_pos rfl]
  ·exact ih nd.2 h
end
section
variable {Q:Bt} {n:Nat} {σ σ':St} {Φ:AV→St→Prop} {f:Addr} {args:List AV} {h:Heap}
theorem adopt_cells {l:List (Addr × Option AV)} {W:Wd} (I:Inv Q W σ h) (nd:(l.map (·.1)).Nodup) (h1:∀ p∈l,W.own p.1=none∧W.F p.1=none∧Q.hB.get? p.1=none∧∃ v,h.IsCell p.1 v∧VO Q W.F v p.2):
  ∃ W':Wd,Inv Q W' (l.map (fun p=>(p.1,.cel p.2))++σ) h∧W'.F=W.F∧∀ b,b∉l.map (·.1)→W'.own b=W.own b:=by
 induction l with
 | nil=>exact ⟨W,I,rfl,fun _ _=>rfl⟩
 | cons p r ih=>
  obtain ⟨c,d⟩:=p
  rw [List.map_cons,List.nodup_cons] at nd
  obtain ⟨W',I',eF,eo⟩:=ih nd.2 fun p hp=>h1 p (.tail _ hp)
  obtain ⟨o1,o2,o3,v,hi,hv⟩:=h1 (c,d) (.head _)
  refine ⟨W'.add c,I'.adopt (c:=.cel d) ((eo c nd.1).trans o1) (by rw [eF];exact o2) o3 (let ⟨o,e,_⟩:=hi;⟨o,e⟩) ?_,eF,fun b hb=>?_⟩
  ·cases hv with
   | none=>exact ⟨hi,Wd.add_self⟩
   | some hv=>exact ⟨_,hi,by show V Q W'.F _ _;rw [eF];exact hv,Wd.add_self⟩
  ·rw [List.map_cons,List.mem_cons,not_or] at hb
   exact (Wd.add_ne hb.1).trans (eo b hb.2)
theorem zip_fs {cs:List (Str × Addr)}:(cs.map (·.1)).zip (cs.map (·.2))=cs:=by
 induction cs with
 | nil=>rfl
 | cons p r ih=>rw [List.map_cons,List.map_cons,List.zip_cons_cons,ih]
theorem zip_map {β:Type} (g:Str→β) (cs:List (Str × Addr)):(cs.map (·.2)).zip ((cs.map (·.1)).map g)=cs.map fun p=>(p.2,g p.1):=by
 induction cs with
 | nil=>rfl
 | cons p r ih=>rw [List.map_cons,List.map_cons,List.map_cons,List.zip_cons_cons,ih,List.map_cons]
noncomputable def celS (as:List Addr) (ds:List (Option AV)):St:=(as.zip ds).map fun p=>(p.1,Cell.cel p.2)
theorem wd_defC (X:Cx Q) {P:Arguments} {body:List Stmt} {sc:Scope} {qn:Str} {cd:Value} {ns cn pn:List Str} {gs:List Nat} {ρ0:Rho} {ds:List (Option AV)} (hf:FnC Q.hB f P body sc qn cd) (hb:BindP P pn) (ho:FOk sc ns cn gs) (ec:cnames sc=cn) (nd:pn.Nodup) (hm:∀ x∈pn,x∈ns∨x∈cn)
  (hl:args.length=pn.length) (h0:ns.map (fun x=>(pn.zip args).lookup x)=ρ0) (h1:cn.map (fun x=>(pn.zip args).lookup x)=ds)
  (h:∀ env as,as.length=ds.length→EnvOk env sc (cn.zip as)→env.code=cd→env.qual=qn++".<locals>."→WB Q n env body ρ0 (celS as ds++σ) (retO Φ)):WD Q (n+1) (.ref f) args σ Φ:=fun A p vs G R I hv k=>by
 obtain ⟨o,fd,g,hd,hc,e1,e2,e3,e4,e5,e6,e7,e8,e9⟩:=hf
 have hlen:vs.length=pn.length:=(vl_len hv).trans hl
 have cnE:(cellsFrom (p.s.heap.objs.size+1) sc.names []).map (·.1)=cn:=(cellsFrom_names rfl).trans ec
 refine codeAny_call_cells (fd:=fd) (body:=body) (binds:=pn.zip vs) R.room (I.keepB _ _ g) hd (X.lim.keeps I.keepB) (hc.keeps I.keepB) e2 (hb fd vs e1 e7 hlen) e6
  (fun x hx=>by
   rw [e3]
   have hx':x.1∈pn:=by obtain ⟨a,b⟩:=x;exact (List.of_mem_zip hx).1
   refine (hm x.1 hx').imp (fun q=>(ho.loc _ q).1) fun q=>⟨(ho.cel _ q).1,?_⟩
   cases e:(cellsFrom (p.s.heap.objs.size+1) sc.names []).lookup x.1 with
   | some _=>rfl
   | none=>exact absurd (cnE▸q) (lk_none e)) (fun s₁ x=>?_) (by rw [e3];exact ho.co) (by rw [e3];exact ho.ge) (by rw [e3];exact ho.kd)
 have hcs:(callEnvC fd p.s.heap.objs.size f).cells=cellsFrom (p.s.heap.objs.size+1) sc.names []:=by show cellsFrom _ fd.scope.names []=_;rw [e3]
 have hkd:∀ y,(callEnvC fd p.s.heap.objs.size f).kindOf y=sc.names.lookup y:=fun y=>by show fd.scope.names.lookup y=_;rw [e3]
 obtain ⟨h',tk,es,hk⟩:=x.done
 subst es
 generalize hcse:cellsFrom (p.s.heap.objs.size+1) sc.names []=ce at hcs cnE
 have hE:EnvOk (callEnvC fd p.s.heap.objs.size f) sc (cn.zip (ce.map (·.2))):=⟨e3,e4,e5,ho.kd,by rw [hcs,← cnE,zip_fs]⟩
 have key:=h (callEnvC fd p.s.heap.objs.size f) (ce.map (·.2)) (by rw [← h1,← cnE,List.length_map,List.length_map,List.length_map]) hE e9 (by show fd.qualname++".<locals>."=_;rw [e8])
 have I':Inv Q p.W σ h':=I.keeps hk
 have keysv:((pn.zip vs).map (·.1))=pn:=zip_keys hlen
 have ab:∀ y∈ce,p.s.heap.objs.size < y.2:=fun y hy=>x.above y.1 y.2 (by rw [hcs];exact hy)
 have newN:∀ c:Addr,p.s.heap.objs.size < c→p.W.own c=none∧p.W.F c=none∧Q.hB.get? c=none:=fun c hc=>I.nob (by
  cases e:p.s.heap.get? c with
  | none=>rfl
  | some o=>exact absurd (Heap.lt_size e) (Nat.lt_asymm hc))
 have ndc:((ce.map fun y=>(y.2,(pn.zip args).lookup y.1)).map (·.1)).Nodup:=by
  rw [List.map_map]
  have:=x.apart
  rw [hcs] at this
  exact List.pairwise_map.mpr this
 have mem_ce:∀ b,b∈(ce.map fun y=>(y.2,(pn.zip args).lookup y.1)).map (·.1)→@LT.lt Nat _ p.s.heap.objs.size b:=fun b q=>by
  rw [List.map_map] at q
  obtain ⟨y,hy,e⟩:=List.mem_map.mp q
  exact (show y.2=b from e)▸ab y hy
 obtain ⟨W',I₁,eF,eo⟩:=adopt_cells (l:=ce.map fun y=>(y.2,(pn.zip args).lookup y.1)) I' ndc fun z hz=>by
  obtain ⟨y,hy,rfl⟩:=List.mem_map.mp hz
  obtain ⟨z1,z2,z3⟩:=newN y.2 (ab y hy)
  have hyc:y.1∈cn:=cnE▸List.mem_map_of_mem hy
  refine ⟨z1,z2,z3,_,x.cell y.1 y.2 (by rw [hcs];exact lookup_nd' (cnE▸ho.cnd) hy),?_⟩
  have hkn:(callEnvC fd p.s.heap.objs.size f).kindOf y.1≠some .local:=by rw [hkd,(ho.cel _ hyc).1];exact fun q=>nomatch q
  have zl:=zip_look (pn:=pn) hv y.1
  cases e:(pn.zip vs).lookup y.1 with
  | none=>rw [e] at zl;rw [bindC_skip (lk_none e)];exact zl
  | some v=>rw [e] at zl;rw [bindC_of hkn (by rw [keysv];exact nd) (lk_mem e)];exact zl
 have oL:W'.own p.s.heap.objs.size=none:=(eo _ fun q=>absurd (mem_ce _ q) (Nat.lt_irrefl _)).trans I.own_none
 have F₁:FrOk Q (callEnvC fd p.s.heap.objs.size f) ρ0 ⟨W',{ p.s with heap:=h',toks:=tk }⟩:=⟨⟨_,x.toInCall.ns,fun i y d h2 h3=>by
   rw [show (callEnvC fd p.s.heap.objs.size f).scope=sc from e3,ho.eq] at h2
   rw [← h0,List.getElem?_map,h2] at h3
   have zl:=zip_look (pn:=pn) hv y
   rw [show (pn.zip args).lookup y=some d from Option.some.inj h3] at zl
   obtain ⟨v,e,hd⟩:=vo_some zl
   exact ⟨v,bindL_of (by rw [hkd];exact (ho.loc _ (List.mem_of_getElem? h2)).1) (by rw [keysv];exact nd) (lk_mem e),by rw [eF];exact hd⟩⟩,oL,by rw [eF];exact I.F_none,(I.nob fresh_size).2.2,by rw [← h0,List.length_map,show (callEnvC fd p.s.heap.objs.size f).scope=sc from e3,ho.eq]⟩
 have hst:celS (ce.map (·.2)) ds=(ce.map fun y=>(y.2,(pn.zip args).lookup y.1)).map (fun p=>(p.1,.cel p.2)):=by
  rw [celS,← h1,← cnE,zip_map]
 rw [hst] at key
 refine (key (A.deeper (callEnvC fd p.s.heap.objs.size f)) ⟨W',_⟩ _ (R.deeper _) ⟨I₁,F₁⟩ fun ρ' σ' q' fl y a x' r hΦ=>?_).any
 have x₁:Bh none p q':=by
  refine ⟨(by rw [← eF];exact x'.F),fun b o e g=>?_,x'.gens,x'.drawn,x'.os⟩
  have hb:@LT.lt Nat _ b p.s.heap.objs.size:=Heap.lt_size g
  obtain ⟨u1,u2,u3,u4⟩:=x'.un b o ((eo b fun q=>Nat.lt_asymm hb (mem_ce b q)).trans e) (hk b o g)
  exact ⟨u1,fun z=>u2 (by rw [eF];exact z),u3,fun _=>u4 fun q=>absurd hb (by rw [show b=p.s.heap.objs.size from Option.some.inj q];exact Nat.lt_irrefl _)⟩
 cases r with
 | next=>exact k σ' q' _ _ a.I x₁ .none hΦ
 | ret hv=>exact k σ' q' _ _ a.I x₁ hv hΦ
 | brk=>exact hΦ.elim
 | cont=>exact hΦ.elim
structure COk (s:Stmt) (t:T) (ns pn cn:List Str) (gs:List Nat):Prop where
 hb:BindP (prS s) pn
 ho:fOk (scS s) ns cn gs=true
 ec:cnames (scS s)=cn
 nd:(decide pn.Nodup&&pn.all fun x=>ns.elem x || cn.elem x)=true
 ht:bdS s=dnS ns cn t
theorem COk.cok (X:Cx Q) {s:Stmt} {t:T} {ns pn cn:List Str} {gs:List Nat} {env:Env} {as:List Addr} (h:COk s t ns pn cn gs) (E:EnvOk env (scS s) (cn.zip as)) (hl:as.length=cn.length):Cok ⟨Q,n,env,ns,cn,as,true,gs⟩ (scS s):=
 have o:=fOk_ok h.ho
 ⟨X,E,o.eq,o.loc,o.nd,fun x m=>⟨.inl (o.cel x m).1,(o.cel x m).2⟩,fun _ x m=>(o.cel x m).1,o.cnd,hl.symm,o.gl⟩
theorem COk.wd (X:Cx Q) {s:Stmt} {t:T} {ns pn cn:List Str} {gs:List Nat} {qn:Str} {cd:Value} {ρ0:Rho} {ds:List (Option AV)} (h:COk s t ns pn cn gs) (hf:FnC Q.hB f (prS s) (bdS s) (scS s) qn cd) (hl:args.length=pn.length) (h0:ns.map (fun x=>(pn.zip args).lookup x)=ρ0) (h1:cn.map (fun x=>(pn.zip args).lookup x)=ds)
  (k:∀ env as,as.length=ds.length→EnvOk env (scS s) (cn.zip as)→env.code=cd→env.qual=qn++".<locals>."→runS ⟨Q,n,env,ns,cn,as,true,gs⟩ 100 true t ρ0 (celS as ds++σ) (retO (thn Φ))):WC Q (n+1) (.ref f) args σ Φ:=by
 have o:=fOk_ok h.ho
 obtain ⟨n1,n2⟩:=Bool.and_eq_true_iff.mp h.nd
 refine WC.thin (WD.wc (wd_defC X hf h.hb o h.ec (of_decide_eq_true n1) (fun x m=>((Bool.or_eq_true_iff).mp (List.all_eq_true.mp n2 x m)).imp elem_mem elem_mem) hl h0 h1 fun env as hl' E e1 e2=>?_))
 rw [h.ht]
 exact runS_ok (h.cok X E (by rw [hl',← h1,List.length_map])) 100 true t _ _ _ (k env as hl' E e1 e2)
theorem COk.wg (X:Cx Q) {i:Nat} {t:T} {ns pn cn:List Str} {gs:List Nat} {ρ0:Rho} {ds:List (Option AV)} (h:COk (st i) t ns pn cn gs) (hi:fcIdx.elem i=true) (hl:args.length=pn.length) (h0:ns.map (fun x=>(pn.zip args).lookup x)=ρ0) (h1:cn.map (fun x=>(pn.zip args).lookup x)=ds)
  (k:∀ env as,as.length=ds.length→EnvOk env (scS (st i)) (cn.zip as)→runS ⟨Q,n,env,ns,cn,as,true,gs⟩ 100 true t ρ0 (celS as ds++σ) (retO (thn Φ))):WG Q (n+1) i args σ Φ:=fun a ha=>by
 obtain ⟨a',q,cd,e,h2⟩:=X.fc i (elem_mem hi)
 rw [ha] at e
 cases e
 exact h.wd X h2 hl h0 h1 fun env as hl' E _ _=>k env as hl' E
end
end
section
open Builtin Builtin.ObjectAttr
set_option tactic.hygienic false
set_option backward.match.sparseCases true
noncomputable def swNames (sc:Scope) (ts:List Expr):List Str:=ts.filterMap fun
  | .Name y pos=>if sc.names.lookup y==some .local&&pos.line==(ts.head?.map (·.pos.line)).getD 0 then some y else none
  | _=>none
noncomputable def noStar (args:List Expr):Bool:=args.all fun|.Starred ..=>false|_=>true
section
variable {env:Env} {sc:Scope} {cs:List (Str × Addr)}
theorem sw_eq (E:EnvOk env sc cs) (ts vs:List Expr) {c p c' p':_}:swappedStores [.Tuple ts c p] (.Tuple vs c' p') env=(do
  if !(ts.length==2 || ts.length==3) || vs.length != ts.length || env.blockKind != .function then return none
  if vs.any fun|.Starred ..=>true|_=>false then return none
  if (swNames sc ts).length != ts.length || (swNames sc ts).eraseDups.length != (swNames sc ts).length then return none
  if vs.all (foldedForSure 8) then return none
  if vs.all (constantsAlone 8) then unsupported "assign.tuple-of-constant-expressions:order-of-the-stores"
  return some (swNames sc ts)):=by
 have:∀ x,env.kindOf x=sc.names.lookup x:=fun x=>by show env.scope.names.lookup x=_;rw [E.scp]
 unfold swappedStores swNames
 simp only [this]
 rfl
theorem sw_none (E:EnvOk env sc cs) {ts vs:List Expr} {c p c' p':_} (h:(!(ts.length==2 || ts.length==3) || vs.length != ts.length || (swNames sc ts).length != ts.length)=true):swappedStores [.Tuple ts c p] (.Tuple vs c' p') env=pure none:=by
 rw [sw_eq E]
 have hb:(env.blockKind != .function)=false:=by rw [E.bk];rfl
 rw [hb,Bool.or_false]
 rw [Bool.or_eq_true] at h
 by_cases q:(!(ts.length==2 || ts.length==3) || vs.length != ts.length)=true
 ·rw [if_pos q]
 ·rcases h with h|h
  ·exact absurd h q
  ·rw [if_neg q]
   by_cases q2:(vs.any fun|.Starred ..=>true|_=>false)=true
   ·rw [if_pos q2]
   ·rw [if_neg q2,h,Bool.true_or,if_pos rfl]
theorem sw_some (E:EnvOk env sc cs) {ts vs:List Expr} {names:List Str} {c p c' p':_} (h:((ts.length==2 || ts.length==3)&&(vs.length==ts.length)&&noStar vs&&(swNames sc ts==names)&&(names.length==ts.length)&&(names.eraseDups.length==names.length)&&!(vs.all (foldedForSure 8))&&!(vs.all (constantsAlone 8)))=true):
  swappedStores [.Tuple ts c p] (.Tuple vs c' p') env=pure (some names):=by
 simp only [Bool.and_eq_true,Bool.not_eq_true',beq_iff_eq] at h
 obtain ⟨⟨⟨⟨⟨⟨⟨h1,h2⟩,h3⟩,h4⟩,h5⟩,h6⟩,h7⟩,h8⟩:=h
 rw [sw_eq E]
 have hb:(env.blockKind != .function)=false:=by rw [E.bk];rfl
 have hv:(vs.any fun|.Starred ..=>true|_=>false)=false:=by
  rw [List.any_eq_false]
  intro x hx
  have:=List.all_eq_true.mp h3 x hx
  revert this
  cases x<;>first|exact fun _=>Bool.false_ne_true|exact fun q=>nomatch q
 rw [show (!(ts.length==2 || ts.length==3) || vs.length != ts.length || env.blockKind != .function)=false by rw [h1,hb,h2,bne_self_eq_false];rfl,hv,h7,h8,h4,show (names.length != ts.length || names.eraseDups.length != names.length)=false by rw [h6,h5,bne_self_eq_false];rfl]
 rfl
end
section
variable {Q:Bt} {n:Nat} {σ σ':St} {Φ:AV→St→Prop} {a:Addr} {c:Cell} {x:Addr × Cell}
theorem br_t {c:Bool} {P R:Prop} (e:c=true) (h:P):Br c P R:=e▸h
theorem br_f {c:Bool} {P R:Prop} (e:c=false) (h:R):Br c P R:=e▸h
theorem br_ {c:Bool} {P R:Prop} (h:c=true→P) (h':c=false→R):Br c P R:=by
 cases c with
 | true=>exact h rfl
 | false=>exact h' rfl
theorem br_d {p:Prop} [Decidable p] {P R:Prop} (h:p→P) (h':¬p→R):Br (decide p) P R:=br_ (fun e=>h (of_decide_eq_true e)) fun e=>h' (of_decide_eq_false e)
theorem br_dt {p:Prop} [Decidable p] {P R:Prop} (e:p) (h:P):Br (decide p) P R:=br_t (decide_eq_true e) h
theorem br_df {p:Prop} [Decidable p] {P R:Prop} (e:¬p) (h:R):Br (decide p) P R:=br_f (decide_eq_false e) h
theorem br_ndt {p:Prop} [Decidable p] {P R:Prop} (e:p) (h:R):Br (!decide p) P R:=br_f (by rw [decide_eq_true e];rfl) h
theorem lk0 {P:Cell→Prop} (h:P c):Stop (Lk ((a,c)::σ) a P):=⟨c,.head _,h⟩
theorem lk1 {P:Cell→Prop} (h:Stop (Lk σ a P)):Stop (Lk (x::σ) a P):=let ⟨⟨c,m,h⟩⟩:=h;⟨c,.tail _ m,h⟩
noncomputable def pUp (x:Addr × Cell) (P:Cell→(Cell→St)→Prop) (c:Cell) (g:Cell→St):Prop:=P c fun c'=>x::g c'
theorem up0 {P:Cell→(Cell→St)→Prop} (h:P c fun c'=>(a,c')::σ):Stop (Up ((a,c)::σ) a P):=⟨[],c,σ,rfl,h⟩
theorem up1 {P:Cell→(Cell→St)→Prop} (h:Stop (Up σ a (pUp x P))):Stop (Up (x::σ) a P):=let ⟨⟨s₁,c,s₂,e,h⟩⟩:=h;⟨x::s₁,c,s₂,congrArg (x::·) e,h⟩
theorem st_lst {k:Int} {d:AV} {K:St→Prop} (h0:0≤k) (h:Stop (Up σ a fun c g=>asL c fun l=>(k < l.length∧l.length≤1000)∧K (g (.lst (l.set k.toNat d))))):Stop (SetS Q σ (.ref a) (.int k) d K):=by
 obtain ⟨⟨s₁,c,s₂,rfl,h⟩⟩:=h
 obtain ⟨l,rfl,q,h⟩:=asL_lst h
 exact ⟨ss_lst h0 q.1 q.2 h⟩
theorem st_zd {k:Int} {d:AV} {K:St→Prop} {m:Int→Option AV} {z:Nat} (hz:z≤1000000) (h:Stop (Up σ a fun c g=>c=.zd m z∧K (g (.zd (fun j=>if j=k then some d else m j) (z+1))))):Stop (SetS Q σ (.ref a) (.int k) d K):=by
 obtain ⟨⟨s₁,c,s₂,rfl,rfl,h⟩⟩:=h
 exact ⟨ss_zd hz h⟩
theorem st_sd {y:Str} {d:AV} {K:St→Prop} {fs:List (Str × AV)} (hz:fs.length≤1000) (h:Stop (Up σ a fun c g=>c=.sd fs∧K (g (.sd (putS y d fs))))):Stop (SetS Q σ (.ref a) (.str y) d K):=by
 obtain ⟨⟨s₁,c,s₂,rfl,rfl,h⟩⟩:=h
 exact ⟨ss_sd hz h⟩
theorem sb_lst {l:List AV} {k:Int} {d:AV} {K:AV→Prop} (hc:(a,Cell.lst l)∈σ) (h0:0≤k) (h2:k < 2^62) (e:l[k.toNat]?=some d) (h:K d):Stop (SubS Q σ (.ref a) (.int k) K):=⟨d,sub_lst hc h0 h2 e,h⟩
theorem sb_lstF {l:List AV} {k:Int} {d:AV} {K:AV→Prop} (h0:0≤k) (h2:k < 2^62) (e:l[k.toNat]?=some d) (h:K d):Stop (SubS Q σ (.lst l) (.int k) K):=⟨d,sub_lstF h0 h2 e,h⟩
theorem sb_sd {fs:List (Str × AV)} {y:Str} {d:AV} {K:AV→Prop} (hc:(a,Cell.sd fs)∈σ) (e:findS y none fs=some d) (h:K d):Stop (SubS Q σ (.ref a) (.str y) K):=⟨d,sub_sd hc e,h⟩
theorem sb_str {x:Str} {k:Int} {K:AV→Prop} (h1:fitsSsize k=true) (h2:(Txt.charAt x k).isSome=true) (h:K (.str (Txt.item x k))):Stop (SubS Q σ (.str x) (.int k) K):=⟨_,sub_str h1 h2,h⟩
theorem kpr {P:Arguments} {b:FuncBody} {s:Scope} {cl:List (Str × Addr)} (hc:(a,Cell.fnc P b s cl)∈σ):KprS Q σ a:=⟨P,b,s,cl,hc⟩
end
end
section
open Builtin Builtin.ObjectAttr
set_option tactic.hygienic false
noncomputable def lcS:Expr→Scope
 | .ListComp _ _ s _=>s
 | .Lambda _ _ s _=>s
 | _=>scS (st 5)
noncomputable def laP:Expr→Arguments
 | .Lambda p _ _ _=>p
 | _=>prS (st 5)
noncomputable def laB:Expr→Expr
 | .Lambda _ b _ _=>b
 | e=>e
noncomputable def lcI:Expr→Expr
 | .ListComp _ [⟨_,i,_,_⟩] _ _=>i
 | e=>e
noncomputable def dOk (ks:List (Str × Pos)) (n:Nat):Bool:=decide (ks.length=n)&&decide (0 < ks.length)&&decide (ks.length≤15)&&decide (ks.map (·.1)).Nodup
noncomputable def kDc (ks:List (Str × Pos)) (K:Kt):Kt:=fun l ρ σ=>asT l fun l=>∀ D,K (.ref D) ρ ((D,.sd ((ks.map (·.1)).zip l))::σ)
section
variable {C:Cn} {sc:Scope} {σ:St} {ρ:Rho} {K:Kt} {raw:Expr} {v l it tg elt ifs:T} {p pos:Pos} {ns cn:List Str} {ca:List Addr} {gs:List Nat} {tk:Bool}
theorem e_slS (O:Cok C sc) (q:raw=.Subscript (C.E v) (.Slice (some (C.E l)) none none p) pos) (h:runE C 20 .e v ρ σ fun o ρ σ=>runE C 20 .e l ρ σ fun i ρ σ=>opt (toS o) fun x=>opt (toI i) fun k=>Stop (x.length≤1000∧∃ y,Txt.slice x (some k) none=y∧K (.str y) ρ σ)):WE C.Q C.n C.env raw ρ σ K:=by
 subst q
 refine e_sliceS ((runE_ok O 20 .e v ρ σ _ h).mono fun o ρ σ h=>WX.mono (runE_ok O 20 .e l ρ σ _ h) fun i ρ σ h=>?_)
 obtain ⟨x,e1,h⟩:=opt_some h
 obtain ⟨k,e2,h⟩:=opt_some h
 obtain rfl:=toS_some e1
 obtain rfl:=toI_some e2
 obtain ⟨⟨h1,y,rfl,h⟩⟩:=h
 exact ⟨_,_,rfl,rfl,h1,h⟩
theorem e_slT (O:Cok C sc) (q:raw=.Subscript (C.E v) (.Slice (some (C.E l)) none none p) pos) (h:runE C 20 .e v ρ σ fun o ρ σ=>runE C 20 .e l ρ σ fun i ρ σ=>opt (toT o) fun x=>opt (toI i) fun k=>Stop ((1≤k∧k≤x.length∧x.length≤1000)∧K (.tup (x.drop k.toNat)) ρ σ)):WE C.Q C.n C.env raw ρ σ K:=by
 subst q
 refine e_sliceT ((runE_ok O 20 .e v ρ σ _ h).mono fun o ρ σ h=>WX.mono (runE_ok O 20 .e l ρ σ _ h) fun i ρ σ h=>?_)
 obtain ⟨x,e1,h⟩:=opt_some h
 obtain ⟨k,e2,h⟩:=opt_some h
 obtain rfl:=toT_some e1
 obtain rfl:=toI_some e2
 exact ⟨_,_,rfl,h.ok.1.1,rfl,h.ok.1.2.1,h.ok.1.2.2,h.ok.2⟩
theorem e_slL (O:Cok C sc) (q:raw=.Subscript (C.E v) (.Slice none (some (C.E l)) none p) pos) (h:runE C 20 .e v ρ σ fun o ρ σ=>runE C 20 .e l ρ σ fun i ρ σ=>opt (toI i) fun k=>Stop (∃ x,0≤k∧(o=.lst x∨∃ a,o=.ref a∧(a,Cell.lst x)∈σ)∧x.length≤2^23∧∀ D,K (.ref D) ρ ((D,.lst (x.take k.toNat))::σ))):WE C.Q C.n C.env raw ρ σ K:=by
 subst q
 refine e_sliceTo ((runE_ok O 20 .e v ρ σ _ h).mono fun o ρ σ h=>WX.mono (runE_ok O 20 .e l ρ σ _ h) fun i ρ σ h=>?_)
 obtain ⟨k,e2,h⟩:=opt_some h
 obtain rfl:=toI_some e2
 obtain ⟨⟨x,h0,h1,h2,h3⟩⟩:=h
 exact ⟨x,_,rfl,h0,h1,h2,h3⟩
theorem e_cmpr (O:Cok C sc) {scope:Scope} (L:LcOk C sc scope ns cn ca gs) (htk:tkOf tg=some tk) (q:raw=.ListComp (hd (den ns cn elt)) [⟨hd (den ns cn tg),C.E it,den ns cn ifs,0⟩] scope pos)
  (h:runE C 20 .e it ρ σ fun o ρ σ=>IterS C.Q σ o tk fun l σ=>l.length≤2^23∧∀ cenv,CompR ⟨C.Q,C.n,cenv,ns,cn,ca,false,gs⟩ 20 tg elt ifs l σ fun acc σ=>∀ D,K (.ref D) ρ ((D,.lst acc)::σ)):WE C.Q C.n C.env raw ρ σ K:=by
 subst q
 exact e_comp (f:=20) (g:=20) O L htk h
theorem s_cmp (O:Cok C sc) {scope:Scope} (L:LcOk C sc scope ns cn ca gs) (htk:tkOf tg=some tk) {i:Nat} {py spos:Pos} {K:Ks} {s:Stmt} (q:s=.Assign [.Name (C.ns.getD i "") py] (.ListComp (hd (den ns cn elt)) [⟨hd (den ns cn tg),C.E it,den ns cn ifs,0⟩] scope pos) spos)
  (hsw:(sc.names.lookup (C.ns.getD i "")==some .local&&py.line==pos.line&&!(scope.names.any fun (n,k)=>n==C.ns.getD i ""&&(k==.local || k==.cell)))=true)
  (h:runE C 20 .e it ρ σ fun o ρ σ=>bif Nat.blt i ρ.length then IterS C.Q σ o tk fun l σ=>l.length≤2^23∧∀ cenv,CompR ⟨C.Q,C.n,cenv,ns,cn,ca,false,gs⟩ 20 tg elt ifs l σ fun acc σ=>∀ D,K .next (ρ.set i (some (.ref D))) ((D,.lst acc)::σ) else False):WS C.Q C.n C.env s ρ σ K:=by
 subst q
 exact s_asC (f:=20) (g:=20) O L htk hsw h
theorem e_dct (O:Cok C sc) {ks:List (Str × Pos)} {vs:T} (q:raw=.Dict (dK ks) (C.L vs) pos) (hk:dOk ks (C.L vs).length=true)
  (h:runE C 20 .l vs ρ σ (kDc ks K)):Stop (WE C.Q C.n C.env raw ρ σ K):=by
 subst q
 exact ⟨e_dictS O hk h⟩
end
end
section
set_option tactic.hygienic false
noncomputable def t5:T:=(.cons (.ret (.bin .Sub (.bin .LShift (.con (.int (1)) 0 (pp 21 12 13)) (.loc 0 (pp 21 17 21)) (pp 21 12 21)) (.con (.int (1)) 0 (pp 21 25 26)) (pp 21 11 26)) (pp 21 4 26))
 .nil)
theorem F_t5:FnOk (st 5) t5 ["size"] ["size"] [] []:=⟨bind1 (by intros;kernel_rfl),by kernel_rfl,rfl,by kernel_rfl,by kernel_rfl⟩
noncomputable def t6:T:=(.cons (.ret (.bin .BitAnd (.loc 0 (pp 23 11 16)) (.cal (.glb 5 (pp 23 19 23)) (.cons (.loc 1 (pp 23 24 28)) .nil) (pp 23 19 29)) (pp 23 11 29)) (pp 23 4 29))
 .nil)
theorem F_t6:FnOk (st 6) t6 ["worth","size"] ["worth","size"] [] [5]:=⟨bind2 (by intros;kernel_rfl),by kernel_rfl,rfl,by kernel_rfl,by kernel_rfl⟩
noncomputable def t7:T:=(.cons (.asg (.loc 2 (pp 25 4 7)) (.cal (.glb 6 (pp 25 10 14)) (.cons (.loc 0 (pp 25 15 20)) (.cons (.loc 1 (pp 25 22 26)) .nil)) (pp 25 10 27)) (pp 25 4 27))
 (.cons (.iff (.cmp .Eq (.bin .RShift (.loc 2 (pp 26 7 10)) (.bin .Sub (.loc 1 (pp 26 14 18)) (.con (.int (1)) 0 (pp 26 21 22)) (pp 26 14 22)) (pp 26 7 22)) (.con (.int (1)) 0 (pp 26 26 27)) (pp 26 7 27)) (.cons (.ret (.bin .Sub (.loc 2 (pp 27 15 18)) (.bin .LShift (.con (.int (1)) 0 (pp 27 22 23)) (.loc 1 (pp 27 27 31)) (pp 27 22 31)) (pp 27 15 32)) (pp 27 8 32))
 .nil) .nil ⟨26,4,27,32⟩)
 (.cons (.ret (.loc 2 (pp 28 11 14)) (pp 28 4 14))
 .nil)))
theorem F_t7:FnOk (st 7) t7 ["worth","size","low"] ["worth","size"] ["low"] [6]:=⟨bind2 (by intros;kernel_rfl),by kernel_rfl,rfl,by kernel_rfl,by kernel_rfl⟩
noncomputable def t8:T:=(.cons (.asg (.loc 2 (pp 30 4 8)) (.bin .LShift (.con (.int (1)) 0 (pp 30 11 12)) (.bin .Sub (.loc 1 (pp 30 16 20)) (.con (.int (1)) 0 (pp 30 23 24)) (pp 30 16 24)) (pp 30 11 24)) (pp 30 4 24))
 (.cons (.ret (.chn .LtE .Lt (.un .USub (.loc 2 (pp 31 12 16)) (pp 31 11 16)) (.loc 0 (pp 31 20 25)) (.loc 2 (pp 31 28 32)) (pp 31 11 32)) (pp 31 4 32))
 .nil))
theorem F_t8:FnOk (st 8) t8 ["worth","size","half"] ["worth","size"] ["half"] []:=⟨bind2 (by intros;kernel_rfl),by kernel_rfl,rfl,by kernel_rfl,by kernel_rfl⟩
noncomputable def t9:T:=(.cons (.ret (.bin .BitAnd (.bin .RShift (.loc 0 (pp 33 11 16)) (.loc 1 (pp 33 20 21)) (pp 33 11 21)) (.con (.int (1)) 0 (pp 33 24 25)) (pp 33 11 25)) (pp 33 4 25))
 .nil)
theorem F_t9:FnOk (st 9) t9 ["worth","n"] ["worth","n"] [] []:=⟨bind2 (by intros;kernel_rfl),by kernel_rfl,rfl,by kernel_rfl,by kernel_rfl⟩
noncomputable def t10:T:=(.cons (.asg (.loc 2 (pp 35 4 8)) (.cal (.glb 6 (pp 35 11 15)) (.cons (.loc 0 (pp 35 16 21)) (.cons (.loc 1 (pp 35 23 27)) .nil)) (pp 35 11 28)) (pp 35 4 28))
 (.cons (.asg (.loc 3 (pp 36 4 9)) (.con (.int (0)) 0 (pp 36 12 13)) (pp 36 4 13))
 (.cons (.whl (.cmp .Gt (.loc 2 (pp 37 10 14)) (.con (.int (0)) 0 (pp 37 17 18)) (pp 37 10 18)) (.cons (.asg (.loc 2 (pp 38 8 12)) (.bin .BitAnd (.loc 2 (pp 38 15 19)) (.bin .Sub (.loc 2 (pp 38 22 26)) (.con (.int (1)) 0 (pp 38 29 30)) (pp 38 22 30)) (pp 38 15 30)) (pp 38 8 30))
 (.cons (.asg (.loc 3 (pp 39 8 13)) (.bin .Add (.loc 3 (pp 39 16 21)) (.con (.int (1)) 0 (pp 39 24 25)) (pp 39 16 25)) (pp 39 8 25))
 .nil)) ⟨37,4,39,25⟩)
 (.cons (.ret (.loc 3 (pp 40 11 16)) (pp 40 4 16))
 .nil))))
theorem F_t10:FnOk (st 10) t10 ["worth","size","rest","count"] ["worth","size"] ["rest","count"] [6]:=⟨bind2 (by intros;kernel_rfl),by kernel_rfl,rfl,by kernel_rfl,by kernel_rfl⟩
noncomputable def t11:T:=(.cons (.ret (.bin .Sub (.con (.int (1)) 0 (pp 42 11 12)) (.bin .Mod (.cal (.glb 10 (pp 42 15 19)) (.cons (.loc 0 (pp 42 20 25)) (.cons (.con (.int (8)) 0 (pp 42 27 28)) .nil)) (pp 42 15 29)) (.con (.int (2)) 0 (pp 42 32 33)) (pp 42 15 33)) (pp 42 11 33)) (pp 42 4 33))
 .nil)
theorem F_t11:FnOk (st 11) t11 ["worth"] ["worth"] [] [10]:=⟨bind1 (by intros;kernel_rfl),by kernel_rfl,rfl,by kernel_rfl,by kernel_rfl⟩
end
section
set_option tactic.hygienic false
noncomputable def t14:T:=(.cons (.ret (.mtb (.glb 203 (pp 46 11 21)) 0 (pp 46 11 27) (.cons (.con (.str " ") 0 (pp 46 28 31)) .nil) (pp 46 11 32)) (pp 46 4 32))
 .nil)
theorem F_t14:FnOk (st 14) t14 [] [] [] [203]:=⟨bind0 (by intros;kernel_rfl),by kernel_rfl,rfl,by kernel_rfl,by kernel_rfl⟩
noncomputable def t25:T:=(.cons (.iff (.cmp .NotIn (.loc 0 (pp 110 7 16)) (.cal (.glb 14 (pp 110 24 39)) .nil (pp 110 24 41)) (pp 110 7 41)) (.cons (.rws (sA (kB (sA (bdS (st 25)) 0) 0) 0))
 .nil) .nil ⟨110,4,111,39⟩)
 (.cons (.ret (.mtb (.cal (.glb 14 (pp 112 11 26)) .nil (pp 112 11 28)) 3 (pp 112 11 34) (.cons (.loc 0 (pp 112 35 44)) .nil) (pp 112 11 45)) (pp 112 4 45))
 .nil))
theorem F_t25:FnOk (st 25) t25 ["condition"] ["condition"] [] [14]:=⟨bind1 (by intros;kernel_rfl),by kernel_rfl,rfl,by kernel_rfl,by kernel_rfl⟩
noncomputable def t26:T:=(.cons (.asg (.loc 2 (pp 114 4 8)) (.bin .RShift (.loc 1 (pp 114 11 17)) (.con (.int (1)) 0 (pp 114 21 22)) (pp 114 11 22)) (pp 114 4 22))
 (.cons (.iff (.cmp .Eq (.loc 2 (pp 115 7 11)) (.con (.int (0)) 0 (pp 115 15 16)) (pp 115 7 16)) (.cons (.asg (.loc 3 (pp 116 8 13)) (.cmp .Eq (.att (.loc 0 (pp 116 16 21)) 9 (pp 116 16 24)) (.con (.int (1)) 0 (pp 116 28 29)) (pp 116 16 29)) (pp 116 8 29))
 .nil) (.cons (.iff (.cmp .Eq (.loc 2 (pp 117 9 13)) (.con (.int (1)) 0 (pp 117 17 18)) (pp 117 9 18)) (.cons (.asg (.loc 3 (pp 118 8 13)) (.cmp .Eq (.att (.loc 0 (pp 118 16 21)) 4 (pp 118 16 24)) (.con (.int (1)) 0 (pp 118 28 29)) (pp 118 16 29)) (pp 118 8 29))
 .nil) (.cons (.iff (.cmp .Eq (.loc 2 (pp 119 9 13)) (.con (.int (2)) 0 (pp 119 17 18)) (pp 119 9 18)) (.cons (.asg (.loc 3 (pp 120 8 13)) (.cmp .Eq (.att (.loc 0 (pp 120 16 21)) 7 (pp 120 16 24)) (.con (.int (1)) 0 (pp 120 28 29)) (pp 120 16 29)) (pp 120 8 29))
 .nil) (.cons (.iff (.cmp .Eq (.loc 2 (pp 121 9 13)) (.con (.int (3)) 0 (pp 121 17 18)) (pp 121 9 18)) (.cons (.asg (.loc 3 (pp 122 8 13)) (.bop .Or (.cons (.cmp .Eq (.att (.loc 0 (pp 122 16 21)) 4 (pp 122 16 24)) (.con (.int (1)) 0 (pp 122 28 29)) (pp 122 16 29)) (.cons (.cmp .Eq (.att (.loc 0 (pp 122 33 38)) 7 (pp 122 33 41)) (.con (.int (1)) 0 (pp 122 45 46)) (pp 122 33 46)) .nil)) (pp 122 16 46)) (pp 122 8 46))
 .nil) (.cons (.iff (.cmp .Eq (.loc 2 (pp 123 9 13)) (.con (.int (4)) 0 (pp 123 17 18)) (pp 123 9 18)) (.cons (.asg (.loc 3 (pp 124 8 13)) (.cmp .Eq (.att (.loc 0 (pp 124 16 21)) 8 (pp 124 16 24)) (.con (.int (1)) 0 (pp 124 28 29)) (pp 124 16 29)) (pp 124 8 29))
 .nil) (.cons (.iff (.cmp .Eq (.loc 2 (pp 125 9 13)) (.con (.int (5)) 0 (pp 125 17 18)) (pp 125 9 18)) (.cons (.asg (.loc 3 (pp 126 8 13)) (.cmp .Eq (.att (.loc 0 (pp 126 16 21)) 5 (pp 126 16 24)) (.con (.int (1)) 0 (pp 126 28 29)) (pp 126 16 29)) (pp 126 8 29))
 .nil) (.cons (.iff (.cmp .Eq (.loc 2 (pp 127 9 13)) (.con (.int (6)) 0 (pp 127 17 18)) (pp 127 9 18)) (.cons (.asg (.loc 3 (pp 128 8 13)) (.cmp .NotEq (.att (.loc 0 (pp 128 16 21)) 8 (pp 128 16 24)) (.att (.loc 0 (pp 128 28 33)) 9 (pp 128 28 36)) (pp 128 16 36)) (pp 128 8 36))
 .nil) (.cons (.asg (.loc 3 (pp 130 8 13)) (.bop .Or (.cons (.cmp .Eq (.att (.loc 0 (pp 130 16 21)) 7 (pp 130 16 24)) (.con (.int (1)) 0 (pp 130 28 29)) (pp 130 16 29)) (.cons (.cmp .NotEq (.att (.loc 0 (pp 130 33 38)) 8 (pp 130 33 41)) (.att (.loc 0 (pp 130 45 50)) 9 (pp 130 45 53)) (pp 130 33 53)) .nil)) (pp 130 16 53)) (pp 130 8 53))
 .nil) ⟨127,4,130,53⟩)
 .nil) ⟨125,4,130,53⟩)
 .nil) ⟨123,4,130,53⟩)
 .nil) ⟨121,4,130,53⟩)
 .nil) ⟨119,4,130,53⟩)
 .nil) ⟨117,4,130,53⟩)
 .nil) ⟨115,4,130,53⟩)
 (.cons (.ret (.ife (.cmp .Eq (.bin .BitAnd (.loc 1 (pp 131 20 26)) (.con (.int (1)) 0 (pp 131 29 30)) (pp 131 20 30)) (.con (.int (0)) 0 (pp 131 34 35)) (pp 131 20 35)) (.loc 3 (pp 131 11 16)) (.un .Not (.loc 3 (pp 131 45 50)) (pp 131 41 50)) (pp 131 11 50)) (pp 131 4 50))
 .nil)))
theorem F_t26:FnOk (st 26) t26 ["flags","number","pair","truth"] ["flags","number"] ["pair","truth"] []:=⟨bind2 (by intros;kernel_rfl),by kernel_rfl,rfl,by kernel_rfl,by kernel_rfl⟩
noncomputable def t27:T:=(.cons (.ret (.cal (.glb 26 (pp 133 11 23)) (.cons (.loc 0 (pp 133 24 29)) (.cons (.cal (.glb 25 (pp 133 31 47)) (.cons (.loc 1 (pp 133 48 57)) .nil) (pp 133 31 58)) .nil)) (pp 133 11 59)) (pp 133 4 59))
 .nil)
theorem F_t27:FnOk (st 27) t27 ["flags","condition"] ["flags","condition"] [] [26,25]:=⟨bind2 (by intros;kernel_rfl),by kernel_rfl,rfl,by kernel_rfl,by kernel_rfl⟩
noncomputable def t28:T:=(.cons (.asg (.loc 3 (pp 135 4 8)) (.cal (.glb 6 (pp 135 11 15)) (.cons (.loc 1 (pp 135 16 22)) (.cons (.loc 2 (pp 135 24 28)) .nil)) (pp 135 11 29)) (pp 135 4 29))
 (.cons (.asg (.att (.loc 0 (pp 136 4 9)) 8 (pp 136 4 12)) (.cal (.glb 9 (pp 136 15 18)) (.cons (.loc 3 (pp 136 19 23)) (.cons (.bin .Sub (.loc 2 (pp 136 25 29)) (.con (.int (1)) 0 (pp 136 32 33)) (pp 136 25 33)) .nil)) (pp 136 15 34)) (pp 136 4 34))
 (.cons (.asg (.att (.loc 0 (pp 137 4 9)) 7 (pp 137 4 12)) (.ife (.cmp .Eq (.loc 3 (pp 137 20 24)) (.con (.int (0)) 0 (pp 137 28 29)) (pp 137 20 29)) (.con (.int (1)) 0 (pp 137 15 16)) (.con (.int (0)) 0 (pp 137 35 36)) (pp 137 15 36)) (pp 137 4 36))
 (.cons (.asg (.att (.loc 0 (pp 138 4 9)) 5 (pp 138 4 12)) (.cal (.glb 11 (pp 138 15 21)) (.cons (.loc 3 (pp 138 22 26)) .nil) (pp 138 15 27)) (pp 138 4 27))
 (.cons (.ret (.loc 3 (pp 139 11 15)) (pp 139 4 15))
 .nil)))))
theorem F_t28:FnOk (st 28) t28 ["flags","result","size","told"] ["flags","result","size"] ["told"] [6,9,11]:=⟨bind3 (by intros;kernel_rfl),by kernel_rfl,rfl,by kernel_rfl,by kernel_rfl⟩
noncomputable def t29:T:=(.cons (.asT true (.cons (.loc 5 (pp 141 4 7)) (.cons (.loc 6 (pp 141 9 12)) .nil)) 0 (pp 141 4 12) (.tup (.cons (.cal (.glb 6 (pp 141 16 20)) (.cons (.loc 1 (pp 141 21 22)) (.cons (.loc 4 (pp 141 24 28)) .nil)) (pp 141 16 29)) (.cons (.cal (.glb 6 (pp 141 31 35)) (.cons (.loc 2 (pp 141 36 37)) (.cons (.loc 4 (pp 141 39 43)) .nil)) (pp 141 31 44)) .nil)) 0 (pp 141 15 45)) (pp 141 4 45))
 (.cons (.asg (.loc 7 (pp 142 4 9)) (.bin .Add (.bin .Add (.loc 5 (pp 142 12 15)) (.loc 6 (pp 142 18 21)) (pp 142 12 21)) (.loc 3 (pp 142 24 29)) (pp 142 12 29)) (pp 142 4 29))
 (.cons (.asg (.loc 8 (pp 143 4 10)) (.cal (.glb 28 (pp 143 13 16)) (.cons (.loc 0 (pp 143 17 22)) (.cons (.loc 7 (pp 143 24 29)) (.cons (.loc 4 (pp 143 31 35)) .nil))) (pp 143 13 36)) (pp 143 4 36))
 (.cons (.asg (.att (.loc 0 (pp 144 4 9)) 4 (pp 144 4 12)) (.bin .RShift (.loc 7 (pp 144 15 20)) (.loc 4 (pp 144 24 28)) (pp 144 15 28)) (pp 144 4 28))
 (.cons (.asg (.att (.loc 0 (pp 145 4 9)) 6 (pp 145 4 12)) (.bin .RShift (.bin .Add (.bin .Add (.bin .BitAnd (.loc 5 (pp 145 16 19)) (.con (.int (15)) 0 (pp 145 22 24)) (pp 145 16 24)) (.bin .BitAnd (.loc 6 (pp 145 29 32)) (.con (.int (15)) 0 (pp 145 35 37)) (pp 145 29 37)) (pp 145 15 38)) (.loc 3 (pp 145 41 46)) (pp 145 15 46)) (.con (.int (4)) 0 (pp 145 50 51)) (pp 145 15 51)) (pp 145 4 51))
 (.cons (.asg (.att (.loc 0 (pp 146 4 9)) 9 (pp 146 4 12)) (.cal (.glb 9 (pp 146 15 18)) (.cons (.bin .BitAnd (.bin .BitXor (.loc 5 (pp 146 20 23)) (.loc 8 (pp 146 26 32)) (pp 146 20 32)) (.bin .BitXor (.loc 6 (pp 146 37 40)) (.loc 8 (pp 146 43 49)) (pp 146 37 49)) (pp 146 19 50)) (.cons (.bin .Sub (.loc 4 (pp 146 52 56)) (.con (.int (1)) 0 (pp 146 59 60)) (pp 146 52 60)) .nil)) (pp 146 15 61)) (pp 146 4 61))
 (.cons (.ret (.loc 8 (pp 147 11 17)) (pp 147 4 17))
 .nil)))))))
theorem F_t29:FnOk (st 29) t29 ["flags","a","b","carry","size","one","two","total","result"] ["flags","a","b","carry","size"] ["one","two","total","result"] [6,28,9]:=⟨bind5 (by intros;kernel_rfl),by kernel_rfl,rfl,by kernel_rfl,by kernel_rfl⟩
noncomputable def t30:T:=(.cons (.asT true (.cons (.loc 5 (pp 149 4 7)) (.cons (.loc 6 (pp 149 9 12)) .nil)) 0 (pp 149 4 12) (.tup (.cons (.cal (.glb 6 (pp 149 16 20)) (.cons (.loc 1 (pp 149 21 22)) (.cons (.loc 4 (pp 149 24 28)) .nil)) (pp 149 16 29)) (.cons (.cal (.glb 6 (pp 149 31 35)) (.cons (.loc 2 (pp 149 36 37)) (.cons (.loc 4 (pp 149 39 43)) .nil)) (pp 149 31 44)) .nil)) 0 (pp 149 15 45)) (pp 149 4 45))
 (.cons (.asg (.loc 7 (pp 150 4 8)) (.bin .Sub (.bin .Sub (.loc 5 (pp 150 11 14)) (.loc 6 (pp 150 17 20)) (pp 150 11 20)) (.loc 3 (pp 150 23 29)) (pp 150 11 29)) (pp 150 4 29))
 (.cons (.asg (.loc 8 (pp 151 4 10)) (.cal (.glb 28 (pp 151 13 16)) (.cons (.loc 0 (pp 151 17 22)) (.cons (.loc 7 (pp 151 24 28)) (.cons (.loc 4 (pp 151 30 34)) .nil))) (pp 151 13 35)) (pp 151 4 35))
 (.cons (.asg (.att (.loc 0 (pp 152 4 9)) 4 (pp 152 4 12)) (.ife (.cmp .Lt (.loc 7 (pp 152 20 24)) (.con (.int (0)) 0 (pp 152 27 28)) (pp 152 20 28)) (.con (.int (1)) 0 (pp 152 15 16)) (.con (.int (0)) 0 (pp 152 34 35)) (pp 152 15 35)) (pp 152 4 35))
 (.cons (.asg (.att (.loc 0 (pp 153 4 9)) 6 (pp 153 4 12)) (.ife (.cmp .Lt (.bin .Sub (.bin .Sub (.bin .BitAnd (.loc 5 (pp 153 21 24)) (.con (.int (15)) 0 (pp 153 27 29)) (pp 153 21 29)) (.bin .BitAnd (.loc 6 (pp 153 34 37)) (.con (.int (15)) 0 (pp 153 40 42)) (pp 153 34 42)) (pp 153 20 43)) (.loc 3 (pp 153 46 52)) (pp 153 20 52)) (.con (.int (0)) 0 (pp 153 55 56)) (pp 153 20 56)) (.con (.int (1)) 0 (pp 153 15 16)) (.con (.int (0)) 0 (pp 153 62 63)) (pp 153 15 63)) (pp 153 4 63))
 (.cons (.asg (.att (.loc 0 (pp 154 4 9)) 9 (pp 154 4 12)) (.cal (.glb 9 (pp 154 15 18)) (.cons (.bin .BitAnd (.bin .BitXor (.loc 5 (pp 154 20 23)) (.loc 6 (pp 154 26 29)) (pp 154 20 29)) (.bin .BitXor (.loc 5 (pp 154 34 37)) (.loc 8 (pp 154 40 46)) (pp 154 34 46)) (pp 154 19 47)) (.cons (.bin .Sub (.loc 4 (pp 154 49 53)) (.con (.int (1)) 0 (pp 154 56 57)) (pp 154 49 57)) .nil)) (pp 154 15 58)) (pp 154 4 58))
 (.cons (.ret (.loc 8 (pp 155 11 17)) (pp 155 4 17))
 .nil)))))))
theorem F_t30:FnOk (st 30) t30 ["flags","a","b","borrow","size","one","two","rest","result"] ["flags","a","b","borrow","size"] ["one","two","rest","result"] [6,28,9]:=⟨bind5 (by intros;kernel_rfl),by kernel_rfl,rfl,by kernel_rfl,by kernel_rfl⟩
noncomputable def t31:T:=(.cons (.asg (.att (.loc 0 (pp 157 4 9)) 4 (pp 157 4 12)) (.con (.int (0)) 0 (pp 157 15 16)) (pp 157 4 16))
 (.cons (.asg (.att (.loc 0 (pp 158 4 9)) 9 (pp 158 4 12)) (.con (.int (0)) 0 (pp 158 15 16)) (pp 158 4 16))
 (.cons (.asg (.att (.loc 0 (pp 159 4 9)) 6 (pp 159 4 12)) (.con (.int (0)) 0 (pp 159 15 16)) (pp 159 4 16))
 (.cons (.ret (.cal (.glb 28 (pp 160 11 14)) (.cons (.loc 0 (pp 160 15 20)) (.cons (.loc 1 (pp 160 22 28)) (.cons (.loc 2 (pp 160 30 34)) .nil))) (pp 160 11 35)) (pp 160 4 35))
 .nil))))
theorem F_t31:FnOk (st 31) t31 ["flags","result","size"] ["flags","result","size"] [] [28]:=⟨bind3 (by intros;kernel_rfl),by kernel_rfl,rfl,by kernel_rfl,by kernel_rfl⟩
noncomputable def t33:T:=(.cons (.asg (.loc 3 (pp 167 4 8)) (.att (.loc 0 (pp 167 11 16)) 4 (pp 167 11 19)) (pp 167 4 19))
 (.cons (.asg (.loc 4 (pp 168 4 10)) (.cal (.glb 30 (pp 168 13 22)) (.cons (.loc 0 (pp 168 23 28)) (.cons (.loc 1 (pp 168 30 31)) (.cons (.con (.int (1)) 0 (pp 168 33 34)) (.cons (.con (.int (0)) 0 (pp 168 36 37)) (.cons (.loc 2 (pp 168 39 43)) .nil))))) (pp 168 13 44)) (pp 168 4 44))
 (.cons (.asg (.att (.loc 0 (pp 169 4 9)) 4 (pp 169 4 12)) (.loc 3 (pp 169 15 19)) (pp 169 4 19))
 (.cons (.ret (.loc 4 (pp 170 11 17)) (pp 170 4 17))
 .nil))))
theorem F_t33:FnOk (st 33) t33 ["flags","a","size","kept","result"] ["flags","a","size"] ["kept","result"] [30]:=⟨bind3 (by intros;kernel_rfl),by kernel_rfl,rfl,by kernel_rfl,by kernel_rfl⟩
noncomputable def t34:T:=(.cons (.ret (.cal (.glb 30 (pp 172 11 20)) (.cons (.loc 0 (pp 172 21 26)) (.cons (.con (.int (0)) 0 (pp 172 28 29)) (.cons (.loc 1 (pp 172 31 32)) (.cons (.con (.int (0)) 0 (pp 172 34 35)) (.cons (.loc 2 (pp 172 37 41)) .nil))))) (pp 172 11 42)) (pp 172 4 42))
 .nil)
theorem F_t34:FnOk (st 34) t34 ["flags","a","size"] ["flags","a","size"] [] [30]:=⟨bind3 (by intros;kernel_rfl),by kernel_rfl,rfl,by kernel_rfl,by kernel_rfl⟩
noncomputable def t42:T:=(.cons (.iff (.cmp .Eq (.loc 0 (pp 202 7 11)) (.con (.int (64)) 0 (pp 202 15 17)) (pp 202 7 17)) (.cons (.ret (.mtb (.glb 204 (pp 203 15 23)) 0 (pp 203 15 29) .nil (pp 203 15 31)) (pp 203 8 31))
 .nil) .nil ⟨202,4,203,31⟩)
 (.cons (.iff (.cmp .Eq (.loc 0 (pp 204 7 11)) (.con (.int (32)) 0 (pp 204 15 17)) (pp 204 7 17)) (.cons (.ret (.mtb (.raw (kE (kE (kS (sA (kB (sA (bdS (st 42)) 1) 0) 0) 0) 0) 0)) 0 (pp 205 15 29) .nil (pp 205 15 31)) (pp 205 8 31))
 .nil) .nil ⟨204,4,205,31⟩)
 (.cons (.iff (.cmp .Eq (.loc 0 (pp 206 7 11)) (.con (.int (16)) 0 (pp 206 15 17)) (pp 206 7 17)) (.cons (.ret (.mtb (.raw (kE (kE (kS (sA (kB (sA (bdS (st 42)) 2) 0) 0) 0) 0) 0)) 0 (pp 207 15 29) .nil (pp 207 15 31)) (pp 207 8 31))
 .nil) .nil ⟨206,4,207,31⟩)
 (.cons (.iff (.cmp .Eq (.loc 0 (pp 208 7 11)) (.con (.int (8)) 0 (pp 208 15 16)) (pp 208 7 16)) (.cons (.ret (.mtb (.raw (kE (kE (kS (sA (kB (sA (bdS (st 42)) 3) 0) 0) 0) 0) 0)) 0 (pp 209 15 28) .nil (pp 209 15 30)) (pp 209 8 30))
 .nil) .nil ⟨208,4,209,30⟩)
 (.cons (.ret (.lst true .nil (pp 210 11 13)) (pp 210 4 13))
 .nil)))))
theorem F_t42:FnOk (st 42) t42 ["size"] ["size"] [] [204]:=⟨bind1 (by intros;kernel_rfl),by kernel_rfl,rfl,by kernel_rfl,by kernel_rfl⟩
noncomputable def t44:T:=(.cons (.asg (.loc 2 (pp 220 4 9)) (.cal (.glb 42 (pp 220 12 23)) (.cons (.loc 1 (pp 220 24 28)) .nil) (pp 220 12 29)) (pp 220 4 29))
 (.cons (.iff (.bop .Or (.cons (.cmp .Eq (.loc 2 (pp 221 7 12)) (.lst true .nil (pp 221 16 18)) (pp 221 7 18)) (.cons (.un .Not (.chn .LtE .LtE (.con (.int (0)) 0 (pp 221 26 27)) (.loc 0 (pp 221 31 37)) (.con (.int (15)) 0 (pp 221 41 43)) (pp 221 26 43)) (pp 221 22 43)) .nil)) (pp 221 7 43)) (.cons (.rws (sA (kB (sA (bdS (st 44)) 1) 0) 0))
 .nil) .nil ⟨221,4,222,46⟩)
 (.cons (.iff (.cmp .Lt (.loc 0 (pp 223 7 13)) (.con (.int (8)) 0 (pp 223 16 17)) (pp 223 7 17)) (.cons (.ret (.cal (.glb 41 (pp 224 15 23)) (.cons (.sub (.loc 2 (pp 224 24 29)) (.loc 0 (pp 224 30 36)) (pp 224 24 37)) (.cons (.con (.str "gpr") 0 (pp 224 39 44)) (.cons (.loc 0 (pp 224 46 52)) (.cons (.loc 1 (pp 224 54 58)) .nil)))) (pp 224 15 59)) (pp 224 8 59))
 .nil) .nil ⟨223,4,224,59⟩)
 (.cons (.ret (.cal (.glb 41 (pp 225 11 19)) (.cons (.bin .Add (.bin .Add (.con (.str "r") 0 (pp 225 20 23)) (.cal (.raw (kE (kE (kE (kE (kS (sA (bdS (st 44)) 3) 0) 1) 0) 1) 0)) (.cons (.loc 0 (pp 225 30 36)) .nil) (pp 225 26 37)) (pp 225 20 37)) (.cal (.glb 43 (pp 225 40 51)) (.cons (.loc 1 (pp 225 52 56)) .nil) (pp 225 40 57)) (pp 225 20 57)) (.cons (.con (.str "gpr") 0 (pp 225 59 64)) (.cons (.loc 0 (pp 225 66 72)) (.cons (.loc 1 (pp 225 74 78)) .nil)))) (pp 225 11 79)) (pp 225 4 79))
 .nil))))
theorem F_t44:FnOk (st 44) t44 ["number","size","names"] ["number","size"] ["names"] [42,41,43]:=⟨bind2 (by intros;kernel_rfl),by kernel_rfl,rfl,by kernel_rfl,by kernel_rfl⟩
noncomputable def t50:T:=(.cons (.iff (.cmp .GtE (.loc 2 (pp 276 7 11)) (.con (.int (32)) 0 (pp 276 15 17)) (pp 276 7 17)) (.cons (.ret (.loc 1 (pp 277 15 20)) (pp 277 8 20))
 .nil) .nil ⟨276,4,277,20⟩)
 (.cons (.ret (.bin .Add (.bin .Sub (.loc 0 (pp 278 11 14)) (.cal (.glb 6 (pp 278 17 21)) (.cons (.loc 0 (pp 278 22 25)) (.cons (.loc 2 (pp 278 27 31)) .nil)) (pp 278 17 32)) (pp 278 11 32)) (.loc 1 (pp 278 35 40)) (pp 278 11 40)) (pp 278 4 40))
 .nil))
theorem F_t50:FnOk (st 50) t50 ["old","worth","size"] ["old","worth","size"] [] [6]:=⟨bind3 (by intros;kernel_rfl),by kernel_rfl,rfl,by kernel_rfl,by kernel_rfl⟩
noncomputable def t52:T:=(.cons (.iff (.cmp .Eq (.att (.loc 1 (pp 376 7 18)) 0 (pp 376 7 23)) (.con (.str "hlt") 0 (pp 376 27 32)) (pp 376 7 32)) (.cons (.asg (.att (.loc 0 (pp 377 8 13)) 20 (pp 377 8 23)) (.con (.bool true) 0 (pp 377 26 30)) (pp 377 8 30))
 (.cons (.rtn (pp 378 8 14))
 .nil)) .nil ⟨376,4,378,14⟩)
 (.cons (.iff (.cmp .In (.att (.loc 1 (pp 379 7 18)) 0 (pp 379 7 23)) (.mtb (.glb 205 (pp 379 27 32)) 0 (pp 379 27 38) .nil (pp 379 27 40)) (pp 379 7 40)) (.cons (.rws (sA (kB (sA (bdS (st 52)) 1) 0) 0))
 .nil) .nil ⟨379,4,380,44⟩)
 (.cons (.frr (.loc 3 (pp 381 8 12)) (.loc 2 (pp 381 16 21)) (.cons (.iff (.cal (.loc 3 (pp 382 11 15)) (.cons (.loc 0 (pp 382 16 21)) (.cons (.loc 1 (pp 382 23 34)) .nil)) (pp 382 11 35)) (.cons (.rtn (pp 383 12 18))
 .nil) .nil ⟨382,8,383,18⟩)
 .nil) ⟨381,4,383,18⟩)
 (.cons (.rws (sA (bdS (st 52)) 3))
 .nil))))
theorem F_t52:FnOk (st 52) t52 ["state","instruction","deeds","deed"] ["state","instruction","deeds"] ["deed"] [205]:=⟨bind3 (by intros;kernel_rfl),by kernel_rfl,rfl,by kernel_rfl,by kernel_rfl⟩
noncomputable def t53:T:=(.cons (.asg (.att (.loc 0 (pp 386 4 9)) 18 (pp 386 4 15)) (.att (.loc 0 (pp 386 18 23)) 17 (pp 386 18 27)) (pp 386 4 27))
 (.cons (.asg (.att (.loc 0 (pp 387 4 9)) 17 (pp 387 4 13)) (.cal (.glb 6 (pp 387 16 20)) (.cons (.bin .Add (.att (.loc 0 (pp 387 21 26)) 17 (pp 387 21 30)) (.att (.loc 1 (pp 387 33 38)) 22 (pp 387 33 45)) (pp 387 21 45)) (.cons (.con (.int (64)) 0 (pp 387 47 49)) .nil)) (pp 387 16 50)) (pp 387 4 50))
 (.cons (.tri (.cons (.exs (.cal (.glb 52 (pp 389 8 12)) (.cons (.loc 0 (pp 389 13 18)) (.cons (.att (.loc 1 (pp 389 20 25)) 21 (pp 389 20 37)) (.cons (.loc 2 (pp 389 39 44)) .nil))) (pp 389 8 45)) (pp 389 8 45))
 .nil) (hD (sA (bdS (st 53)) 2)) [] ⟨388,4,392,19⟩)
 .nil)))
theorem F_t53:FnOk (st 53) t53 ["state","found","deeds","error"] ["state","found","deeds"] ["error"] [6,52]:=⟨bind3 (by intros;kernel_rfl),by kernel_rfl,rfl,by kernel_rfl,by kernel_rfl⟩
noncomputable def t54:T:=(.cons (.iff (.att (.loc 0 (pp 394 7 12)) 20 (pp 394 7 22)) (.cons (.rws (sA (kB (sA (bdS (st 54)) 0) 0) 0))
 .nil) .nil ⟨394,4,395,36⟩)
 .nil)
theorem F_t54:FnOk (st 54) t54 ["state"] ["state"] [] []:=⟨bind1 (by intros;kernel_rfl),by kernel_rfl,rfl,by kernel_rfl,by kernel_rfl⟩
noncomputable def t55:T:=(.cons (.exs (.cal (.glb 54 (pp 397 4 16)) (.cons (.loc 0 (pp 397 17 22)) .nil) (pp 397 4 23)) (pp 397 4 23))
 (.cons (.iff (.cmp .NotIn (.att (.loc 0 (pp 398 7 12)) 17 (pp 398 7 16)) (.loc 1 (pp 398 24 31)) (pp 398 7 31)) (.cons (.rws (sA (kB (sA (bdS (st 55)) 1) 0) 0))
 .nil) .nil ⟨398,4,399,36⟩)
 (.cons (.asg (.loc 3 (pp 400 4 9)) (.sub (.loc 1 (pp 400 12 19)) (.att (.loc 0 (pp 400 20 25)) 17 (pp 400 20 29)) (pp 400 12 30)) (pp 400 4 30))
 (.cons (.exs (.cal (.glb 53 (pp 401 4 11)) (.cons (.loc 0 (pp 401 12 17)) (.cons (.loc 3 (pp 401 19 24)) (.cons (.loc 2 (pp 401 26 31)) .nil))) (pp 401 4 32)) (pp 401 4 32))
 (.cons (.ret (.loc 3 (pp 402 11 16)) (pp 402 4 16))
 .nil)))))
theorem F_t55:FnOk (st 55) t55 ["state","program","deeds","found"] ["state","program","deeds"] ["found"] [54,53]:=⟨bind3 (by intros;kernel_rfl),by kernel_rfl,rfl,by kernel_rfl,by kernel_rfl⟩
noncomputable def t56:T:=(.cons (.asg (.loc 4 (pp 404 4 9)) (.con (.int (0)) 0 (pp 404 12 13)) (pp 404 4 13))
 (.cons (.whl (.bop .And (.cons (.cmp .Lt (.loc 4 (pp 405 10 15)) (.loc 1 (pp 405 18 22)) (pp 405 10 22)) (.cons (.un .Not (.att (.loc 0 (pp 405 32 37)) 20 (pp 405 32 47)) (pp 405 28 47)) .nil)) (pp 405 10 48)) (.cons (.exs (.cal (.loc 3 (pp 406 8 15)) (.cons (.loc 0 (pp 406 16 21)) .nil) (pp 406 8 22)) (pp 406 8 22))
 (.cons (.asg (.loc 4 (pp 407 8 13)) (.bin .Add (.loc 4 (pp 407 16 21)) (.con (.int (1)) 0 (pp 407 24 25)) (pp 407 16 25)) (pp 407 8 25))
 (.cons (.iff (.cmp .In (.att (.loc 0 (pp 408 11 16)) 17 (pp 408 11 20)) (.loc 2 (pp 408 24 30)) (pp 408 11 30)) (.cons (.brk (pp 409 12 17))
 .nil) .nil ⟨408,8,409,17⟩)
 .nil))) ⟨405,4,409,17⟩)
 (.cons (.ret (.loc 4 (pp 410 11 16)) (pp 410 4 16))
 .nil)))
theorem F_t56:FnOk (st 56) t56 ["state","most","places","advance","count"] ["state","most","places","advance"] ["count"] []:=⟨bind4 (by intros;kernel_rfl),by kernel_rfl,rfl,by kernel_rfl,by kernel_rfl⟩
noncomputable def t60:T:=(.cons (.frr (.loc 1 (pp 424 8 12)) (.tup (.cons (.con (.str "j") 0 (pp 424 17 20)) (.cons (.con (.str "set") 0 (pp 424 22 27)) (.cons (.con (.str "cmov") 0 (pp 424 29 35)) .nil))) 0 (pp 424 16 36)) (.cons (.iff (.bop .And (.cons (.mtb (.loc 0 (pp 425 11 15)) 1 (pp 425 11 26) (.cons (.loc 1 (pp 425 27 31)) .nil) (pp 425 11 32)) (.cons (.cmp .In (.raw (kE (kE (kS (sA (kB (sA (bdS (st 60)) 0) 0) 0) 0) 1) 0)) (.cal (.glb 14 (pp 425 57 72)) .nil (pp 425 57 74)) (pp 425 37 74)) .nil)) (pp 425 11 74)) (.cons (.ret (.raw (kS (sA (kB (sA (kB (sA (bdS (st 60)) 0) 0) 0) 0) 0) 0)) (pp 426 12 35))
 .nil) .nil ⟨425,8,426,35⟩)
 .nil) ⟨424,4,426,35⟩)
 (.cons (.ret (.con (.str "") 0 (pp 427 11 13)) (pp 427 4 13))
 .nil))
theorem F_t60:FnOk (st 60) t60 ["name","stem"] ["name"] ["stem"] [14,215]:=⟨bind1 (by intros;kernel_rfl),by kernel_rfl,rfl,by kernel_rfl,by kernel_rfl⟩
noncomputable def at60_0:T:=(.loc 0 (pp 425 37 41))
noncomputable def bt60_0:T:=(.cal (.glb 215 (pp 425 42 45)) (.cons (.loc 1 (pp 425 46 50)) .nil) (pp 425 42 51))
theorem S_t60_0:rawE (kE (kE (kS (sA (kB (sA (bdS (st 60)) 0) 0) 0) 0) 1) 0)=.Subscript (hd (den ["name","stem"] [] at60_0)) (.Slice (some (hd (den ["name","stem"] [] bt60_0))) none none (pp 425 42 52)) (pp 425 37 53):=by kernel_rfl
noncomputable def at60_1:T:=(.loc 0 (pp 426 19 23))
noncomputable def bt60_1:T:=(.cal (.glb 215 (pp 426 24 27)) (.cons (.loc 1 (pp 426 28 32)) .nil) (pp 426 24 33))
theorem S_t60_1:rawE (kS (sA (kB (sA (kB (sA (bdS (st 60)) 0) 0) 0) 0) 0) 0)=.Subscript (hd (den ["name","stem"] [] at60_1)) (.Slice (some (hd (den ["name","stem"] [] bt60_1))) none none (pp 426 24 34)) (pp 426 19 35):=by kernel_rfl
noncomputable def t63:T:=(.cons (.iff (.cmp .Eq (.loc 1 (pp 431 7 11)) (.con (.str "add") 0 (pp 431 15 20)) (pp 431 7 20)) (.cons (.ret (.cal (.glb 29 (pp 432 15 24)) (.cons (.loc 0 (pp 432 25 30)) (.cons (.loc 2 (pp 432 32 33)) (.cons (.loc 3 (pp 432 35 36)) (.cons (.con (.int (0)) 0 (pp 432 38 39)) (.cons (.loc 4 (pp 432 41 45)) .nil))))) (pp 432 15 46)) (pp 432 8 46))
 .nil) .nil ⟨431,4,432,46⟩)
 (.cons (.iff (.cmp .Eq (.loc 1 (pp 433 7 11)) (.con (.str "adc") 0 (pp 433 15 20)) (pp 433 7 20)) (.cons (.ret (.cal (.glb 29 (pp 434 15 24)) (.cons (.loc 0 (pp 434 25 30)) (.cons (.loc 2 (pp 434 32 33)) (.cons (.loc 3 (pp 434 35 36)) (.cons (.att (.loc 0 (pp 434 38 43)) 4 (pp 434 38 46)) (.cons (.loc 4 (pp 434 48 52)) .nil))))) (pp 434 15 53)) (pp 434 8 53))
 .nil) .nil ⟨433,4,434,53⟩)
 (.cons (.iff (.cmp .Eq (.loc 1 (pp 435 7 11)) (.con (.str "sbb") 0 (pp 435 15 20)) (pp 435 7 20)) (.cons (.ret (.cal (.glb 30 (pp 436 15 24)) (.cons (.loc 0 (pp 436 25 30)) (.cons (.loc 2 (pp 436 32 33)) (.cons (.loc 3 (pp 436 35 36)) (.cons (.att (.loc 0 (pp 436 38 43)) 4 (pp 436 38 46)) (.cons (.loc 4 (pp 436 48 52)) .nil))))) (pp 436 15 53)) (pp 436 8 53))
 .nil) .nil ⟨435,4,436,53⟩)
 (.cons (.iff (.cmp .In (.loc 1 (pp 437 7 11)) (.tup (.cons (.con (.str "sub") 0 (pp 437 16 21)) (.cons (.con (.str "cmp") 0 (pp 437 23 28)) .nil)) 0 (pp 437 15 29)) (pp 437 7 29)) (.cons (.ret (.cal (.glb 30 (pp 438 15 24)) (.cons (.loc 0 (pp 438 25 30)) (.cons (.loc 2 (pp 438 32 33)) (.cons (.loc 3 (pp 438 35 36)) (.cons (.con (.int (0)) 0 (pp 438 38 39)) (.cons (.loc 4 (pp 438 41 45)) .nil))))) (pp 438 15 46)) (pp 438 8 46))
 .nil) .nil ⟨437,4,438,46⟩)
 (.cons (.iff (.cmp .In (.loc 1 (pp 439 7 11)) (.tup (.cons (.con (.str "and") 0 (pp 439 16 21)) (.cons (.con (.str "test") 0 (pp 439 23 29)) .nil)) 0 (pp 439 15 30)) (pp 439 7 30)) (.cons (.ret (.cal (.glb 31 (pp 440 15 26)) (.cons (.loc 0 (pp 440 27 32)) (.cons (.bin .BitAnd (.loc 2 (pp 440 34 35)) (.loc 3 (pp 440 38 39)) (pp 440 34 39)) (.cons (.loc 4 (pp 440 41 45)) .nil))) (pp 440 15 46)) (pp 440 8 46))
 .nil) .nil ⟨439,4,440,46⟩)
 (.cons (.iff (.cmp .Eq (.loc 1 (pp 441 7 11)) (.con (.str "or") 0 (pp 441 15 19)) (pp 441 7 19)) (.cons (.ret (.cal (.glb 31 (pp 442 15 26)) (.cons (.loc 0 (pp 442 27 32)) (.cons (.bin .BitOr (.loc 2 (pp 442 34 35)) (.loc 3 (pp 442 38 39)) (pp 442 34 39)) (.cons (.loc 4 (pp 442 41 45)) .nil))) (pp 442 15 46)) (pp 442 8 46))
 .nil) .nil ⟨441,4,442,46⟩)
 (.cons (.ret (.cal (.glb 31 (pp 443 11 22)) (.cons (.loc 0 (pp 443 23 28)) (.cons (.bin .BitXor (.loc 2 (pp 443 30 31)) (.loc 3 (pp 443 34 35)) (pp 443 30 35)) (.cons (.loc 4 (pp 443 37 41)) .nil))) (pp 443 11 42)) (pp 443 4 42))
 .nil)))))))
theorem F_t63:FnOk (st 63) t63 ["flags","name","a","b","size"] ["flags","name","a","b","size"] [] [29,30,31]:=⟨bind5 (by intros;kernel_rfl),by kernel_rfl,rfl,by kernel_rfl,by kernel_rfl⟩
noncomputable def t64:T:=(.cons (.asT true (.cons (.loc 2 (pp 445 4 10)) (.cons (.loc 3 (pp 445 12 18)) .nil)) 0 (pp 445 4 18) (.tup (.cons (.sub (.att (.loc 1 (pp 445 22 33)) 31 (pp 445 22 42)) (.con (.int (0)) 0 (pp 445 43 44)) (pp 445 22 45)) (.cons (.sub (.att (.loc 1 (pp 445 47 58)) 31 (pp 445 47 67)) (.con (.int (1)) 0 (pp 445 68 69)) (pp 445 47 70)) .nil)) 0 (pp 445 21 71)) (pp 445 4 71))
 (.cons (.asg (.loc 4 (pp 446 4 8)) (.mth (.loc 0 (pp 446 11 16)) 51 7 (pp 446 11 24) (.cons (.loc 2 (pp 446 25 31)) (.cons (.loc 1 (pp 446 33 44)) .nil)) (pp 446 11 45)) (pp 446 4 45))
 (.cons (.asT true (.cons (.loc 5 (pp 447 4 5)) (.cons (.loc 6 (pp 447 7 8)) .nil)) 0 (pp 447 4 8) (.tup (.cons (.mth (.loc 0 (pp 447 12 17)) 51 8 (pp 447 12 22) (.cons (.loc 2 (pp 447 23 29)) (.cons (.loc 4 (pp 447 31 35)) .nil)) (pp 447 12 36)) (.cons (.mth (.loc 0 (pp 447 38 43)) 51 8 (pp 447 38 48) (.cons (.loc 3 (pp 447 49 55)) (.cons (.loc 4 (pp 447 57 61)) .nil)) (pp 447 38 62)) .nil)) 0 (pp 447 11 63)) (pp 447 4 63))
 (.cons (.asg (.loc 7 (pp 448 4 10)) (.cal (.glb 63 (pp 448 13 21)) (.cons (.att (.loc 0 (pp 448 22 27)) 15 (pp 448 22 33)) (.cons (.att (.loc 1 (pp 448 35 46)) 0 (pp 448 35 51)) (.cons (.loc 5 (pp 448 53 54)) (.cons (.loc 6 (pp 448 56 57)) (.cons (.loc 4 (pp 448 59 63)) .nil))))) (pp 448 13 64)) (pp 448 4 64))
 (.cons (.iff (.cmp .NotIn (.att (.loc 1 (pp 449 7 18)) 0 (pp 449 7 23)) (.tup (.cons (.con (.str "cmp") 0 (pp 449 32 37)) (.cons (.con (.str "test") 0 (pp 449 39 45)) .nil)) 0 (pp 449 31 46)) (pp 449 7 46)) (.cons (.exs (.mth (.loc 0 (pp 450 8 13)) 51 9 (pp 450 8 19) (.cons (.loc 2 (pp 450 20 26)) (.cons (.loc 4 (pp 450 28 32)) (.cons (.loc 7 (pp 450 34 40)) .nil))) (pp 450 8 41)) (pp 450 8 41))
 .nil) .nil ⟨449,4,450,41⟩)
 .nil)))))
theorem F_t64:FnOk (st 64) t64 ["state","instruction","target","source","size","a","b","result"] ["state","instruction"] ["target","source","size","a","b","result"] [63]:=⟨bind2 (by intros;kernel_rfl),by kernel_rfl,rfl,by kernel_rfl,by kernel_rfl⟩
noncomputable def t65:T:=(.cons (.asg (.loc 2 (pp 452 4 10)) (.sub (.att (.loc 1 (pp 452 13 24)) 31 (pp 452 13 33)) (.con (.int (0)) 0 (pp 452 34 35)) (pp 452 13 36)) (pp 452 4 36))
 (.cons (.asg (.loc 3 (pp 453 4 8)) (.mth (.loc 0 (pp 453 11 16)) 51 7 (pp 453 11 24) (.cons (.loc 2 (pp 453 25 31)) (.cons (.loc 1 (pp 453 33 44)) .nil)) (pp 453 11 45)) (pp 453 4 45))
 (.cons (.asg (.loc 4 (pp 454 4 5)) (.mth (.loc 0 (pp 454 8 13)) 51 8 (pp 454 8 18) (.cons (.loc 2 (pp 454 19 25)) (.cons (.loc 3 (pp 454 27 31)) .nil)) (pp 454 8 32)) (pp 454 4 32))
 (.cons (.iff (.cmp .Eq (.att (.loc 1 (pp 455 7 18)) 0 (pp 455 7 23)) (.con (.str "inc") 0 (pp 455 27 32)) (pp 455 7 32)) (.cons (.asg (.loc 5 (pp 456 8 14)) (.cal (.raw (kE (kS (sA (kB (sA (bdS (st 65)) 3) 0) 0) 1) 0)) (.cons (.att (.loc 0 (pp 456 27 32)) 15 (pp 456 27 38)) (.cons (.loc 4 (pp 456 40 41)) (.cons (.loc 3 (pp 456 43 47)) .nil))) (pp 456 17 48)) (pp 456 8 48))
 .nil) (.cons (.iff (.cmp .Eq (.att (.loc 1 (pp 457 9 20)) 0 (pp 457 9 25)) (.con (.str "dec") 0 (pp 457 29 34)) (pp 457 9 34)) (.cons (.asg (.loc 5 (pp 458 8 14)) (.cal (.glb 33 (pp 458 17 26)) (.cons (.att (.loc 0 (pp 458 27 32)) 15 (pp 458 27 38)) (.cons (.loc 4 (pp 458 40 41)) (.cons (.loc 3 (pp 458 43 47)) .nil))) (pp 458 17 48)) (pp 458 8 48))
 .nil) (.cons (.iff (.cmp .Eq (.att (.loc 1 (pp 459 9 20)) 0 (pp 459 9 25)) (.con (.str "neg") 0 (pp 459 29 34)) (pp 459 9 34)) (.cons (.asg (.loc 5 (pp 460 8 14)) (.cal (.glb 34 (pp 460 17 26)) (.cons (.att (.loc 0 (pp 460 27 32)) 15 (pp 460 27 38)) (.cons (.loc 4 (pp 460 40 41)) (.cons (.loc 3 (pp 460 43 47)) .nil))) (pp 460 17 48)) (pp 460 8 48))
 .nil) (.cons (.asg (.loc 5 (pp 462 8 14)) (.bin .BitXor (.loc 4 (pp 462 17 18)) (.bin .Sub (.bin .LShift (.con (.int (1)) 0 (pp 462 22 23)) (.loc 3 (pp 462 27 31)) (pp 462 22 31)) (.con (.int (1)) 0 (pp 462 35 36)) (pp 462 21 36)) (pp 462 17 36)) (pp 462 8 36))
 .nil) ⟨459,4,462,36⟩)
 .nil) ⟨457,4,462,36⟩)
 .nil) ⟨455,4,462,36⟩)
 (.cons (.exs (.mth (.loc 0 (pp 463 4 9)) 51 9 (pp 463 4 15) (.cons (.loc 2 (pp 463 16 22)) (.cons (.loc 3 (pp 463 24 28)) (.cons (.loc 5 (pp 463 30 36)) .nil))) (pp 463 4 37)) (pp 463 4 37))
 .nil)))))
theorem F_t65:FnOk (st 65) t65 ["state","instruction","target","size","a","result"] ["state","instruction"] ["target","size","a","result"] [33,34]:=⟨bind2 (by intros;kernel_rfl),by kernel_rfl,rfl,by kernel_rfl,by kernel_rfl⟩
noncomputable def t70:T:=(.cons (.asT true (.cons (.loc 2 (pp 505 4 10)) (.cons (.loc 3 (pp 505 12 18)) .nil)) 0 (pp 505 4 18) (.tup (.cons (.sub (.att (.loc 1 (pp 505 22 33)) 31 (pp 505 22 42)) (.con (.int (0)) 0 (pp 505 43 44)) (pp 505 22 45)) (.cons (.sub (.att (.loc 1 (pp 505 47 58)) 31 (pp 505 47 67)) (.con (.int (1)) 0 (pp 505 68 69)) (pp 505 47 70)) .nil)) 0 (pp 505 21 71)) (pp 505 4 71))
 (.cons (.asg (.loc 4 (pp 506 4 8)) (.mth (.loc 0 (pp 506 11 16)) 51 7 (pp 506 11 24) (.cons (.loc 2 (pp 506 25 31)) (.cons (.loc 1 (pp 506 33 44)) .nil)) (pp 506 11 45)) (pp 506 4 45))
 (.cons (.asT true (.cons (.loc 5 (pp 507 4 7)) (.cons (.loc 6 (pp 507 9 12)) .nil)) 0 (pp 507 4 12) (.tup (.cons (.mth (.loc 0 (pp 507 16 21)) 51 8 (pp 507 16 26) (.cons (.loc 2 (pp 507 27 33)) (.cons (.loc 4 (pp 507 35 39)) .nil)) (pp 507 16 40)) (.cons (.mth (.loc 0 (pp 507 42 47)) 51 8 (pp 507 42 52) (.cons (.loc 3 (pp 507 53 59)) (.cons (.loc 4 (pp 507 61 65)) .nil)) (pp 507 42 66)) .nil)) 0 (pp 507 15 67)) (pp 507 4 67))
 (.cons (.exs (.mth (.loc 0 (pp 508 4 9)) 51 9 (pp 508 4 15) (.cons (.loc 2 (pp 508 16 22)) (.cons (.loc 4 (pp 508 24 28)) (.cons (.ife (.cal (.glb 27 (pp 508 37 42)) (.cons (.att (.loc 0 (pp 508 43 48)) 15 (pp 508 43 54)) (.cons (.cal (.glb 60 (pp 508 56 68)) (.cons (.att (.loc 1 (pp 508 69 80)) 0 (pp 508 69 85)) .nil) (pp 508 56 86)) .nil)) (pp 508 37 87)) (.loc 6 (pp 508 30 33)) (.loc 5 (pp 508 93 96)) (pp 508 30 96)) .nil))) (pp 508 4 97)) (pp 508 4 97))
 .nil))))
theorem F_t70:FnOk (st 70) t70 ["state","instruction","target","source","size","old","new"] ["state","instruction"] ["target","source","size","old","new"] [27,60]:=⟨bind2 (by intros;kernel_rfl),by kernel_rfl,rfl,by kernel_rfl,by kernel_rfl⟩
noncomputable def t71:T:=(.cons (.asg (.loc 2 (pp 510 4 8)) (.att (.loc 1 (pp 510 11 22)) 0 (pp 510 11 27)) (pp 510 4 27))
 (.cons (.iff (.cmp .In (.loc 2 (pp 511 7 11)) (.tup (.cons (.con (.str "add") 0 (pp 511 16 21)) (.cons (.con (.str "adc") 0 (pp 511 23 28)) (.cons (.con (.str "sub") 0 (pp 511 30 35)) (.cons (.con (.str "sbb") 0 (pp 511 37 42)) (.cons (.con (.str "cmp") 0 (pp 511 44 49)) (.cons (.con (.str "and") 0 (pp 511 51 56)) (.cons (.con (.str "or") 0 (pp 511 58 62)) (.cons (.con (.str "xor") 0 (pp 511 64 69)) (.cons (.con (.str "test") 0 (pp 511 71 77)) .nil))))))))) 0 (pp 511 15 78)) (pp 511 7 78)) (.cons (.exs (.cal (.glb 64 (pp 512 8 16)) (.cons (.loc 0 (pp 512 17 22)) (.cons (.loc 1 (pp 512 24 35)) .nil)) (pp 512 8 36)) (pp 512 8 36))
 .nil) (.cons (.iff (.cmp .In (.loc 2 (pp 513 9 13)) (.tup (.cons (.con (.str "inc") 0 (pp 513 18 23)) (.cons (.con (.str "dec") 0 (pp 513 25 30)) (.cons (.con (.str "not") 0 (pp 513 32 37)) (.cons (.con (.str "neg") 0 (pp 513 39 44)) .nil)))) 0 (pp 513 17 45)) (pp 513 9 45)) (.cons (.exs (.cal (.glb 65 (pp 514 8 16)) (.cons (.loc 0 (pp 514 17 22)) (.cons (.loc 1 (pp 514 24 35)) .nil)) (pp 514 8 36)) (pp 514 8 36))
 .nil) (.cons (.iff (.cmp .Eq (.loc 2 (pp 515 9 13)) (.con (.str "xadd") 0 (pp 515 17 23)) (pp 515 9 23)) (.cons (.exs (.cal (.glb 66 (pp 516 8 17)) (.cons (.loc 0 (pp 516 18 23)) (.cons (.loc 1 (pp 516 25 36)) .nil)) (pp 516 8 37)) (pp 516 8 37))
 .nil) (.cons (.iff (.cmp .Eq (.loc 2 (pp 517 9 13)) (.con (.str "cmpxchg") 0 (pp 517 17 26)) (pp 517 9 26)) (.cons (.exs (.cal (.glb 67 (pp 518 8 20)) (.cons (.loc 0 (pp 518 21 26)) (.cons (.loc 1 (pp 518 28 39)) .nil)) (pp 518 8 40)) (pp 518 8 40))
 .nil) (.cons (.iff (.cmp .In (.loc 2 (pp 519 9 13)) (.tup (.cons (.con (.str "clc") 0 (pp 519 18 23)) (.cons (.con (.str "stc") 0 (pp 519 25 30)) (.cons (.con (.str "cmc") 0 (pp 519 32 37)) (.cons (.con (.str "cld") 0 (pp 519 39 44)) (.cons (.con (.str "std") 0 (pp 519 46 51)) (.cons (.con (.str "lahf") 0 (pp 519 53 59)) (.cons (.con (.str "sahf") 0 (pp 519 61 67)) .nil))))))) 0 (pp 519 17 68)) (pp 519 9 68)) (.cons (.exs (.cal (.glb 68 (pp 520 8 17)) (.cons (.loc 0 (pp 520 18 23)) (.cons (.loc 2 (pp 520 25 29)) .nil)) (pp 520 8 30)) (pp 520 8 30))
 .nil) (.cons (.iff (.bop .And (.cons (.mtb (.loc 2 (pp 521 9 13)) 1 (pp 521 9 24) (.cons (.con (.str "set") 0 (pp 521 25 30)) .nil) (pp 521 9 31)) (.cons (.cmp .NotEq (.cal (.glb 60 (pp 521 36 48)) (.cons (.loc 2 (pp 521 49 53)) .nil) (pp 521 36 54)) (.con (.str "") 0 (pp 521 58 60)) (pp 521 36 60)) .nil)) (pp 521 9 60)) (.cons (.exs (.cal (.glb 69 (pp 522 8 16)) (.cons (.loc 0 (pp 522 17 22)) (.cons (.loc 1 (pp 522 24 35)) .nil)) (pp 522 8 36)) (pp 522 8 36))
 .nil) (.cons (.iff (.bop .And (.cons (.mtb (.loc 2 (pp 523 9 13)) 1 (pp 523 9 24) (.cons (.con (.str "cmov") 0 (pp 523 25 31)) .nil) (pp 523 9 32)) (.cons (.cmp .NotEq (.cal (.glb 60 (pp 523 37 49)) (.cons (.loc 2 (pp 523 50 54)) .nil) (pp 523 37 55)) (.con (.str "") 0 (pp 523 59 61)) (pp 523 37 61)) .nil)) (pp 523 9 61)) (.cons (.exs (.cal (.glb 70 (pp 524 8 17)) (.cons (.loc 0 (pp 524 18 23)) (.cons (.loc 1 (pp 524 25 36)) .nil)) (pp 524 8 37)) (pp 524 8 37))
 .nil) (.cons (.ret (.con (.bool false) 0 (pp 526 15 20)) (pp 526 8 20))
 .nil) ⟨523,4,526,20⟩)
 .nil) ⟨521,4,526,20⟩)
 .nil) ⟨519,4,526,20⟩)
 .nil) ⟨517,4,526,20⟩)
 .nil) ⟨515,4,526,20⟩)
 .nil) ⟨513,4,526,20⟩)
 .nil) ⟨511,4,526,20⟩)
 (.cons (.ret (.con (.bool true) 0 (pp 527 11 15)) (pp 527 4 15))
 .nil)))
theorem F_t71:FnOk (st 71) t71 ["state","instruction","name"] ["state","instruction"] ["name"] [64,65,66,67,68,60,69,70]:=⟨bind2 (by intros;kernel_rfl),by kernel_rfl,rfl,by kernel_rfl,by kernel_rfl⟩
noncomputable def t80:T:=(.cons (.iff (.loc 3 (pp 635 7 16)) (.cons (.asg (.loc 4 (pp 636 8 13)) (.bin .Mult (.cal (.glb 7 (pp 636 16 22)) (.cons (.loc 0 (pp 636 23 26)) (.cons (.loc 2 (pp 636 28 32)) .nil)) (pp 636 16 33)) (.cal (.glb 7 (pp 636 36 42)) (.cons (.loc 1 (pp 636 43 48)) (.cons (.loc 2 (pp 636 50 54)) .nil)) (pp 636 36 55)) (pp 636 16 55)) (pp 636 8 55))
 (.cons (.asg (.loc 5 (pp 637 8 15)) (.ife (.cal (.glb 8 (pp 637 23 34)) (.cons (.loc 4 (pp 637 35 40)) (.cons (.loc 2 (pp 637 42 46)) .nil)) (pp 637 23 47)) (.con (.int (0)) 0 (pp 637 18 19)) (.con (.int (1)) 0 (pp 637 53 54)) (pp 637 18 54)) (pp 637 8 54))
 .nil)) (.cons (.asg (.loc 4 (pp 639 8 13)) (.bin .Mult (.loc 0 (pp 639 16 19)) (.loc 1 (pp 639 22 27)) (pp 639 16 27)) (pp 639 8 27))
 (.cons (.asg (.loc 5 (pp 640 8 15)) (.ife (.cmp .Eq (.bin .RShift (.loc 4 (pp 640 23 28)) (.loc 2 (pp 640 32 36)) (pp 640 23 36)) (.con (.int (0)) 0 (pp 640 40 41)) (pp 640 23 41)) (.con (.int (0)) 0 (pp 640 18 19)) (.con (.int (1)) 0 (pp 640 47 48)) (pp 640 18 48)) (pp 640 8 48))
 .nil)) ⟨635,4,640,48⟩)
 (.cons (.ret (.tup (.cons (.cal (.glb 6 (pp 641 12 16)) (.cons (.loc 4 (pp 641 17 22)) (.cons (.loc 2 (pp 641 24 28)) .nil)) (pp 641 12 29)) (.cons (.cal (.glb 6 (pp 641 31 35)) (.cons (.bin .RShift (.loc 4 (pp 641 36 41)) (.loc 2 (pp 641 45 49)) (pp 641 36 49)) (.cons (.loc 2 (pp 641 51 55)) .nil)) (pp 641 31 56)) (.cons (.loc 5 (pp 641 58 65)) .nil))) 0 (pp 641 11 66)) (pp 641 4 66))
 .nil))
theorem F_t80:FnOk (st 80) t80 ["one","other","size","is_signed","whole","is_wide"] ["one","other","size","is_signed"] ["whole","is_wide"] [7,8,6]:=⟨bind4 (by intros;kernel_rfl),by kernel_rfl,rfl,by kernel_rfl,by kernel_rfl⟩
noncomputable def t81:T:=(.cons (.asT false (.cons (.att (.loc 0 (pp 643 4 9)) 4 (pp 643 4 12)) (.cons (.att (.loc 0 (pp 643 14 19)) 5 (pp 643 14 22)) (.cons (.att (.loc 0 (pp 643 24 29)) 6 (pp 643 24 32)) .nil))) 0 (pp 643 4 32) (.tup (.cons (.con (.int (0)) 0 (pp 643 36 37)) (.cons (.con (.int (0)) 0 (pp 643 39 40)) (.cons (.con (.int (0)) 0 (pp 643 42 43)) .nil))) 0 (pp 643 35 44)) (pp 643 4 44))
 (.cons (.asT false (.cons (.att (.loc 0 (pp 644 4 9)) 7 (pp 644 4 12)) (.cons (.att (.loc 0 (pp 644 14 19)) 8 (pp 644 14 22)) (.cons (.att (.loc 0 (pp 644 24 29)) 9 (pp 644 24 32)) .nil))) 0 (pp 644 4 32) (.tup (.cons (.con (.int (0)) 0 (pp 644 36 37)) (.cons (.con (.int (0)) 0 (pp 644 39 40)) (.cons (.con (.int (0)) 0 (pp 644 42 43)) .nil))) 0 (pp 644 35 44)) (pp 644 4 44))
 .nil))
theorem F_t81:FnOk (st 81) t81 ["flags"] ["flags"] [] []:=⟨bind1 (by intros;kernel_rfl),by kernel_rfl,rfl,by kernel_rfl,by kernel_rfl⟩
noncomputable def t82:T:=(.cons (.exs (.cal (.glb 81 (pp 646 4 15)) (.cons (.loc 0 (pp 646 16 21)) .nil) (pp 646 4 22)) (pp 646 4 22))
 (.cons (.asg (.att (.loc 0 (pp 647 4 9)) 4 (pp 647 4 12)) (.loc 1 (pp 647 15 22)) (pp 647 4 22))
 (.cons (.asg (.att (.loc 0 (pp 648 4 9)) 9 (pp 648 4 12)) (.loc 1 (pp 648 15 22)) (pp 648 4 22))
 .nil)))
theorem F_t82:FnOk (st 82) t82 ["flags","is_wide"] ["flags","is_wide"] [] [81]:=⟨bind2 (by intros;kernel_rfl),by kernel_rfl,rfl,by kernel_rfl,by kernel_rfl⟩
noncomputable def t84:T:=(.cons (.asg (.loc 2 (pp 656 4 12)) (.att (.loc 1 (pp 656 15 26)) 31 (pp 656 15 35)) (pp 656 4 35))
 (.cons (.asg (.loc 3 (pp 657 4 8)) (.mth (.loc 0 (pp 657 11 16)) 51 7 (pp 657 11 24) (.cons (.sub (.loc 2 (pp 657 25 33)) (.con (.int (0)) 0 (pp 657 34 35)) (pp 657 25 36)) (.cons (.loc 1 (pp 657 38 49)) .nil)) (pp 657 11 50)) (pp 657 4 50))
 (.cons (.asg (.loc 4 (pp 658 4 7)) (.mth (.loc 0 (pp 658 10 15)) 51 8 (pp 658 10 20) (.cons (.sub (.loc 2 (pp 658 21 29)) (.con (.int (0)) 0 (pp 658 30 31)) (pp 658 21 32)) (.cons (.loc 3 (pp 658 34 38)) .nil)) (pp 658 10 39)) (pp 658 4 39))
 (.cons (.iff (.cmp .Eq (.cal (.glb 215 (pp 659 7 10)) (.cons (.loc 2 (pp 659 11 19)) .nil) (pp 659 7 20)) (.con (.int (1)) 0 (pp 659 24 25)) (pp 659 7 25)) (.cons (.asT false (.cons (.loc 5 (pp 660 8 11)) (.cons (.loc 6 (pp 660 13 17)) (.cons (.loc 7 (pp 660 19 26)) .nil))) 0 (pp 660 8 26) (.cal (.glb 80 (pp 660 29 36)) (.cons (.mth (.loc 0 (pp 660 37 42)) 51 1 (pp 660 37 46) (.cons (.cal (.glb 44 (pp 660 47 50)) (.cons (.con (.int (0)) 0 (pp 660 51 52)) (.cons (.loc 3 (pp 660 54 58)) .nil)) (pp 660 47 59)) .nil) (pp 660 37 60)) (.cons (.loc 4 (pp 660 62 65)) (.cons (.loc 3 (pp 660 67 71)) (.cons (.cmp .Eq (.att (.loc 1 (pp 660 73 84)) 0 (pp 660 73 89)) (.con (.str "imul") 0 (pp 660 93 99)) (pp 660 73 99)) .nil)))) (pp 660 29 100)) (pp 660 8 100))
 (.cons (.exs (.cal (.glb 83 (pp 661 8 18)) (.cons (.loc 0 (pp 661 19 24)) (.cons (.loc 5 (pp 661 26 29)) (.cons (.loc 6 (pp 661 31 35)) (.cons (.loc 3 (pp 661 37 41)) .nil)))) (pp 661 8 42)) (pp 661 8 42))
 .nil)) (.cons (.asg (.loc 8 (pp 663 8 13)) (.mth (.loc 0 (pp 663 16 21)) 51 8 (pp 663 16 26) (.cons (.sub (.loc 2 (pp 663 27 35)) (.con (.int (1)) 0 (pp 663 36 37)) (pp 663 27 38)) (.cons (.loc 3 (pp 663 40 44)) .nil)) (pp 663 16 45)) (pp 663 8 45))
 (.cons (.iff (.cmp .Eq (.cal (.glb 215 (pp 664 11 14)) (.cons (.loc 2 (pp 664 15 23)) .nil) (pp 664 11 24)) (.con (.int (3)) 0 (pp 664 28 29)) (pp 664 11 29)) (.cons (.asg (.loc 4 (pp 665 12 15)) (.mth (.loc 0 (pp 665 18 23)) 51 8 (pp 665 18 28) (.cons (.sub (.loc 2 (pp 665 29 37)) (.con (.int (2)) 0 (pp 665 38 39)) (pp 665 29 40)) (.cons (.loc 3 (pp 665 42 46)) .nil)) (pp 665 18 47)) (pp 665 12 47))
 .nil) .nil ⟨664,8,665,47⟩)
 (.cons (.asT false (.cons (.loc 5 (pp 666 8 11)) (.cons (.loc 6 (pp 666 13 17)) (.cons (.loc 7 (pp 666 19 26)) .nil))) 0 (pp 666 8 26) (.cal (.glb 80 (pp 666 29 36)) (.cons (.loc 4 (pp 666 37 40)) (.cons (.loc 8 (pp 666 42 47)) (.cons (.loc 3 (pp 666 49 53)) (.cons (.con (.bool true) 0 (pp 666 55 59)) .nil)))) (pp 666 29 60)) (pp 666 8 60))
 (.cons (.exs (.mth (.loc 0 (pp 667 8 13)) 51 9 (pp 667 8 19) (.cons (.sub (.loc 2 (pp 667 20 28)) (.con (.int (0)) 0 (pp 667 29 30)) (pp 667 20 31)) (.cons (.loc 3 (pp 667 33 37)) (.cons (.loc 5 (pp 667 39 42)) .nil))) (pp 667 8 43)) (pp 667 8 43))
 .nil)))) ⟨659,4,667,43⟩)
 (.cons (.exs (.cal (.glb 82 (pp 668 4 12)) (.cons (.att (.loc 0 (pp 668 13 18)) 15 (pp 668 13 24)) (.cons (.loc 7 (pp 668 26 33)) .nil)) (pp 668 4 34)) (pp 668 4 34))
 .nil)))))
theorem F_t84:FnOk (st 84) t84 ["state","instruction","operands","size","one","low","high","is_wide","other"] ["state","instruction"] ["operands","size","one","low","high","is_wide","other"] [215,80,44,83,82]:=⟨bind2 (by intros;kernel_rfl),by kernel_rfl,rfl,by kernel_rfl,by kernel_rfl⟩
noncomputable def t89:T:=(.cons (.iff (.cmp .Eq (.att (.loc 2 (pp 674 7 12)) 1 (pp 674 7 17)) (.con (.str "mem") 0 (pp 674 21 26)) (pp 674 7 26)) (.cons (.asT true (.cons (.loc 1 (pp 675 8 11)) (.cons (.loc 2 (pp 675 13 18)) .nil)) 0 (pp 675 8 18) (.tup (.cons (.loc 2 (pp 675 22 27)) (.cons (.loc 1 (pp 675 29 32)) .nil)) 0 (pp 675 21 33)) (pp 675 8 33))
 .nil) .nil ⟨674,4,675,33⟩)
 (.cons (.asg (.loc 4 (pp 676 4 9)) (.mth (.loc 0 (pp 676 12 17)) 51 8 (pp 676 12 22) (.cons (.loc 1 (pp 676 23 26)) (.cons (.loc 3 (pp 676 28 32)) .nil)) (pp 676 12 33)) (pp 676 4 33))
 (.cons (.asg (.loc 5 (pp 677 4 10)) (.mth (.loc 0 (pp 677 13 18)) 51 8 (pp 677 13 23) (.cons (.loc 2 (pp 677 24 29)) (.cons (.loc 3 (pp 677 31 35)) .nil)) (pp 677 13 36)) (pp 677 4 36))
 (.cons (.exs (.mth (.loc 0 (pp 678 4 9)) 51 9 (pp 678 4 15) (.cons (.loc 1 (pp 678 16 19)) (.cons (.loc 3 (pp 678 21 25)) (.cons (.loc 5 (pp 678 27 33)) .nil))) (pp 678 4 34)) (pp 678 4 34))
 (.cons (.exs (.mth (.loc 0 (pp 679 4 9)) 51 9 (pp 679 4 15) (.cons (.loc 2 (pp 679 16 21)) (.cons (.loc 3 (pp 679 23 27)) (.cons (.loc 4 (pp 679 29 34)) .nil))) (pp 679 4 35)) (pp 679 4 35))
 .nil)))))
theorem F_t89:FnOk (st 89) t89 ["state","one","other","size","first","second"] ["state","one","other","size"] ["first","second"] []:=⟨bind4 (by intros;kernel_rfl),by kernel_rfl,rfl,by kernel_rfl,by kernel_rfl⟩
noncomputable def t90:T:=(.cons (.asg (.loc 2 (pp 681 4 8)) (.att (.loc 1 (pp 681 11 22)) 0 (pp 681 11 27)) (pp 681 4 27))
 (.cons (.iff (.cmp .Eq (.loc 2 (pp 682 7 11)) (.con (.str "nop") 0 (pp 682 15 20)) (pp 682 7 20)) (.cons (.ret (.con (.bool true) 0 (pp 683 15 19)) (pp 683 8 19))
 .nil) .nil ⟨682,4,683,19⟩)
 (.cons (.iff (.bop .And (.cons (.cmp .NotEq (.loc 2 (pp 684 7 11)) (.con (.str "mov") 0 (pp 684 15 20)) (pp 684 7 20)) (.cons (.cmp .NotEq (.loc 2 (pp 684 25 29)) (.con (.str "lea") 0 (pp 684 33 38)) (pp 684 25 38)) (.cons (.cmp .NotEq (.loc 2 (pp 684 44 48)) (.con (.str "xchg") 0 (pp 684 52 58)) (pp 684 44 58)) .nil))) (pp 684 7 59)) (.cons (.ret (.con (.bool false) 0 (pp 685 15 20)) (pp 685 8 20))
 .nil) .nil ⟨684,4,685,20⟩)
 (.cons (.asg (.loc 3 (pp 686 4 7)) (.sub (.att (.loc 1 (pp 686 10 21)) 31 (pp 686 10 30)) (.con (.int (0)) 0 (pp 686 31 32)) (pp 686 10 33)) (pp 686 4 33))
 (.cons (.asg (.loc 4 (pp 687 4 9)) (.sub (.att (.loc 1 (pp 687 12 23)) 31 (pp 687 12 32)) (.con (.int (1)) 0 (pp 687 33 34)) (pp 687 12 35)) (pp 687 4 35))
 (.cons (.asg (.loc 5 (pp 688 4 8)) (.mth (.loc 0 (pp 688 11 16)) 51 7 (pp 688 11 24) (.cons (.loc 3 (pp 688 25 28)) (.cons (.loc 1 (pp 688 30 41)) .nil)) (pp 688 11 42)) (pp 688 4 42))
 (.cons (.iff (.cmp .Eq (.loc 2 (pp 689 7 11)) (.con (.str "lea") 0 (pp 689 15 20)) (pp 689 7 20)) (.cons (.exs (.mth (.loc 0 (pp 690 8 13)) 51 2 (pp 690 8 17) (.cons (.att (.loc 3 (pp 690 18 21)) 25 (pp 690 18 30)) (.cons (.mth (.loc 0 (pp 690 32 37)) 51 5 (pp 690 32 44) (.cons (.loc 4 (pp 690 45 50)) .nil) (pp 690 32 51)) .nil)) (pp 690 8 52)) (pp 690 8 52))
 .nil) (.cons (.iff (.cmp .Eq (.loc 2 (pp 691 9 13)) (.con (.str "mov") 0 (pp 691 17 22)) (pp 691 9 22)) (.cons (.exs (.mth (.loc 0 (pp 692 8 13)) 51 9 (pp 692 8 19) (.cons (.loc 3 (pp 692 20 23)) (.cons (.loc 5 (pp 692 25 29)) (.cons (.mth (.loc 0 (pp 692 31 36)) 51 8 (pp 692 31 41) (.cons (.loc 4 (pp 692 42 47)) (.cons (.loc 5 (pp 692 49 53)) .nil)) (pp 692 31 54)) .nil))) (pp 692 8 55)) (pp 692 8 55))
 .nil) (.cons (.exs (.cal (.glb 89 (pp 694 8 16)) (.cons (.loc 0 (pp 694 17 22)) (.cons (.loc 3 (pp 694 24 27)) (.cons (.loc 4 (pp 694 29 34)) (.cons (.loc 5 (pp 694 36 40)) .nil)))) (pp 694 8 41)) (pp 694 8 41))
 .nil) ⟨691,4,694,41⟩)
 .nil) ⟨689,4,694,41⟩)
 (.cons (.ret (.con (.bool true) 0 (pp 695 11 15)) (pp 695 4 15))
 .nil))))))))
theorem F_t90:FnOk (st 90) t90 ["state","instruction","name","one","other","size"] ["state","instruction"] ["name","one","other","size"] [89]:=⟨bind2 (by intros;kernel_rfl),by kernel_rfl,rfl,by kernel_rfl,by kernel_rfl⟩
noncomputable def t91:T:=(.cons (.asg (.loc 2 (pp 697 4 7)) (.sub (.att (.loc 1 (pp 697 10 21)) 31 (pp 697 10 30)) (.con (.int (0)) 0 (pp 697 31 32)) (pp 697 10 33)) (pp 697 4 33))
 (.cons (.asg (.loc 3 (pp 698 4 8)) (.mth (.loc 0 (pp 698 11 16)) 51 7 (pp 698 11 24) (.cons (.loc 2 (pp 698 25 28)) (.cons (.loc 1 (pp 698 30 41)) .nil)) (pp 698 11 42)) (pp 698 4 42))
 (.cons (.exs (.mth (.loc 0 (pp 699 4 9)) 51 10 (pp 699 4 14) (.cons (.mth (.loc 0 (pp 699 15 20)) 51 8 (pp 699 15 25) (.cons (.loc 2 (pp 699 26 29)) (.cons (.loc 3 (pp 699 31 35)) .nil)) (pp 699 15 36)) (.cons (.bin .FloorDiv (.loc 3 (pp 699 38 42)) (.con (.int (8)) 0 (pp 699 46 47)) (pp 699 38 47)) .nil)) (pp 699 4 48)) (pp 699 4 48))
 .nil)))
theorem F_t91:FnOk (st 91) t91 ["state","instruction","one","size"] ["state","instruction"] ["one","size"] []:=⟨bind2 (by intros;kernel_rfl),by kernel_rfl,rfl,by kernel_rfl,by kernel_rfl⟩
noncomputable def t92:T:=(.cons (.asg (.loc 2 (pp 701 4 7)) (.sub (.att (.loc 1 (pp 701 10 21)) 31 (pp 701 10 30)) (.con (.int (0)) 0 (pp 701 31 32)) (pp 701 10 33)) (pp 701 4 33))
 (.cons (.asg (.loc 3 (pp 702 4 8)) (.mth (.loc 0 (pp 702 11 16)) 51 7 (pp 702 11 24) (.cons (.loc 2 (pp 702 25 28)) (.cons (.loc 1 (pp 702 30 41)) .nil)) (pp 702 11 42)) (pp 702 4 42))
 (.cons (.asg (.loc 4 (pp 703 4 9)) (.mth (.loc 0 (pp 703 12 17)) 51 11 (pp 703 12 21) (.cons (.bin .FloorDiv (.loc 3 (pp 703 22 26)) (.con (.int (8)) 0 (pp 703 30 31)) (pp 703 22 31)) .nil) (pp 703 12 32)) (pp 703 4 32))
 (.cons (.exs (.mth (.loc 0 (pp 704 4 9)) 51 9 (pp 704 4 15) (.cons (.loc 2 (pp 704 16 19)) (.cons (.loc 3 (pp 704 21 25)) (.cons (.loc 4 (pp 704 27 32)) .nil))) (pp 704 4 33)) (pp 704 4 33))
 .nil))))
theorem F_t92:FnOk (st 92) t92 ["state","instruction","one","size","worth"] ["state","instruction"] ["one","size","worth"] []:=⟨bind2 (by intros;kernel_rfl),by kernel_rfl,rfl,by kernel_rfl,by kernel_rfl⟩
noncomputable def t93:T:=(.cons (.asg (.loc 2 (pp 706 4 8)) (.att (.loc 1 (pp 706 11 22)) 0 (pp 706 11 27)) (pp 706 4 27))
 (.cons (.iff (.cmp .Eq (.loc 2 (pp 707 7 11)) (.con (.str "push") 0 (pp 707 15 21)) (pp 707 7 21)) (.cons (.exs (.cal (.glb 91 (pp 708 8 20)) (.cons (.loc 0 (pp 708 21 26)) (.cons (.loc 1 (pp 708 28 39)) .nil)) (pp 708 8 40)) (pp 708 8 40))
 .nil) (.cons (.iff (.cmp .Eq (.loc 2 (pp 709 9 13)) (.con (.str "pop") 0 (pp 709 17 22)) (pp 709 9 22)) (.cons (.exs (.cal (.glb 92 (pp 710 8 19)) (.cons (.loc 0 (pp 710 20 25)) (.cons (.loc 1 (pp 710 27 38)) .nil)) (pp 710 8 39)) (pp 710 8 39))
 .nil) (.cons (.iff (.cmp .Eq (.loc 2 (pp 711 9 13)) (.con (.str "pushfq") 0 (pp 711 17 25)) (pp 711 9 25)) (.cons (.exs (.mth (.loc 0 (pp 712 8 13)) 51 10 (pp 712 8 18) (.cons (.mth (.att (.loc 0 (pp 712 19 24)) 15 (pp 712 19 30)) 24 2 (pp 712 19 35) .nil (pp 712 19 37)) (.cons (.con (.int (8)) 0 (pp 712 39 40)) .nil)) (pp 712 8 41)) (pp 712 8 41))
 .nil) (.cons (.iff (.cmp .Eq (.loc 2 (pp 713 9 13)) (.con (.str "popfq") 0 (pp 713 17 24)) (pp 713 9 24)) (.cons (.exs (.mth (.att (.loc 0 (pp 714 8 13)) 15 (pp 714 8 19)) 24 3 (pp 714 8 26) (.cons (.mth (.loc 0 (pp 714 27 32)) 51 11 (pp 714 27 36) (.cons (.con (.int (8)) 0 (pp 714 37 38)) .nil) (pp 714 27 39)) .nil) (pp 714 8 40)) (pp 714 8 40))
 .nil) (.cons (.iff (.cmp .Eq (.loc 2 (pp 715 9 13)) (.con (.str "leave") 0 (pp 715 17 24)) (pp 715 9 24)) (.cons (.asg (.sub (.att (.loc 0 (pp 716 8 13)) 13 (pp 716 8 18)) (.glb 201 (pp 716 19 22)) (pp 716 8 23)) (.sub (.att (.loc 0 (pp 716 26 31)) 13 (pp 716 26 36)) (.glb 202 (pp 716 37 40)) (pp 716 26 41)) (pp 716 8 41))
 (.cons (.asg (.sub (.att (.loc 0 (pp 717 8 13)) 13 (pp 717 8 18)) (.glb 202 (pp 717 19 22)) (pp 717 8 23)) (.mth (.loc 0 (pp 717 26 31)) 51 11 (pp 717 26 35) (.cons (.con (.int (8)) 0 (pp 717 36 37)) .nil) (pp 717 26 38)) (pp 717 8 38))
 .nil)) (.cons (.ret (.con (.bool false) 0 (pp 719 15 20)) (pp 719 8 20))
 .nil) ⟨715,4,719,20⟩)
 .nil) ⟨713,4,719,20⟩)
 .nil) ⟨711,4,719,20⟩)
 .nil) ⟨709,4,719,20⟩)
 .nil) ⟨707,4,719,20⟩)
 (.cons (.ret (.con (.bool true) 0 (pp 720 11 15)) (pp 720 4 15))
 .nil)))
theorem F_t93:FnOk (st 93) t93 ["state","instruction","name"] ["state","instruction"] ["name"] [91,92,201,202]:=⟨bind2 (by intros;kernel_rfl),by kernel_rfl,rfl,by kernel_rfl,by kernel_rfl⟩
noncomputable def t94:T:=(.cons (.iff (.cmp .NotEq (.att (.loc 1 (pp 722 7 14)) 1 (pp 722 7 19)) (.con (.str "rel") 0 (pp 722 23 28)) (pp 722 7 28)) (.cons (.ret (.mth (.loc 0 (pp 723 15 20)) 51 8 (pp 723 15 25) (.cons (.loc 1 (pp 723 26 33)) (.cons (.con (.int (64)) 0 (pp 723 35 37)) .nil)) (pp 723 15 38)) (pp 723 8 38))
 .nil) .nil ⟨722,4,723,38⟩)
 (.cons (.iff (.cmp .NotEq (.att (.loc 1 (pp 724 7 14)) 0 (pp 724 7 19)) (.con (.str "") 0 (pp 724 23 25)) (pp 724 7 25)) (.cons (.rws (sA (kB (sA (bdS (st 94)) 1) 0) 0))
 .nil) .nil ⟨724,4,725,64⟩)
 (.cons (.ret (.cal (.glb 6 (pp 726 11 15)) (.cons (.bin .Add (.att (.loc 0 (pp 726 16 21)) 17 (pp 726 16 25)) (.att (.loc 1 (pp 726 28 35)) 26 (pp 726 28 41)) (pp 726 16 41)) (.cons (.con (.int (64)) 0 (pp 726 43 45)) .nil)) (pp 726 11 46)) (pp 726 4 46))
 .nil)))
theorem F_t94:FnOk (st 94) t94 ["state","operand"] ["state","operand"] [] [6]:=⟨bind2 (by intros;kernel_rfl),by kernel_rfl,rfl,by kernel_rfl,by kernel_rfl⟩
noncomputable def t96:T:=(.cons (.iff (.cmp .Eq (.loc 1 (pp 731 7 11)) (.con (.str "jmp") 0 (pp 731 15 20)) (pp 731 7 20)) (.cons (.ret (.con (.bool true) 0 (pp 732 15 19)) (pp 732 8 19))
 .nil) .nil ⟨731,4,732,19⟩)
 (.cons (.iff (.cmp .Eq (.loc 1 (pp 733 7 11)) (.con (.str "jrcxz") 0 (pp 733 15 22)) (pp 733 7 22)) (.cons (.ret (.cmp .Eq (.sub (.att (.loc 0 (pp 734 15 20)) 13 (pp 734 15 25)) (.raw (kE (kE (kS (sA (kB (sA (bdS (st 96)) 1) 0) 0) 0) 0) 1)) (pp 734 15 30)) (.con (.int (0)) 0 (pp 734 34 35)) (pp 734 15 35)) (pp 734 8 35))
 .nil) .nil ⟨733,4,734,35⟩)
 (.cons (.iff (.cmp .Eq (.loc 1 (pp 735 7 11)) (.con (.str "loop") 0 (pp 735 15 21)) (pp 735 7 21)) (.cons (.ret (.cmp .NotEq (.cal (.glb 95 (pp 736 15 25)) (.cons (.loc 0 (pp 736 26 31)) .nil) (pp 736 15 32)) (.con (.int (0)) 0 (pp 736 36 37)) (pp 736 15 37)) (pp 736 8 37))
 .nil) .nil ⟨735,4,736,37⟩)
 (.cons (.iff (.cmp .Eq (.loc 1 (pp 737 7 11)) (.con (.str "loope") 0 (pp 737 15 22)) (pp 737 7 22)) (.cons (.ret (.bop .And (.cons (.cmp .NotEq (.cal (.glb 95 (pp 738 15 25)) (.cons (.loc 0 (pp 738 26 31)) .nil) (pp 738 15 32)) (.con (.int (0)) 0 (pp 738 36 37)) (pp 738 15 37)) (.cons (.cmp .Eq (.att (.att (.loc 0 (pp 738 42 47)) 15 (pp 738 42 53)) 7 (pp 738 42 56)) (.con (.int (1)) 0 (pp 738 60 61)) (pp 738 42 61)) .nil)) (pp 738 15 61)) (pp 738 8 61))
 .nil) .nil ⟨737,4,738,61⟩)
 (.cons (.iff (.cmp .Eq (.loc 1 (pp 739 7 11)) (.con (.str "loopne") 0 (pp 739 15 23)) (pp 739 7 23)) (.cons (.ret (.bop .And (.cons (.cmp .NotEq (.cal (.glb 95 (pp 740 15 25)) (.cons (.loc 0 (pp 740 26 31)) .nil) (pp 740 15 32)) (.con (.int (0)) 0 (pp 740 36 37)) (pp 740 15 37)) (.cons (.cmp .Eq (.att (.att (.loc 0 (pp 740 42 47)) 15 (pp 740 42 53)) 7 (pp 740 42 56)) (.con (.int (0)) 0 (pp 740 60 61)) (pp 740 42 61)) .nil)) (pp 740 15 61)) (pp 740 8 61))
 .nil) .nil ⟨739,4,740,61⟩)
 (.cons (.ret (.cal (.glb 27 (pp 741 11 16)) (.cons (.att (.loc 0 (pp 741 17 22)) 15 (pp 741 17 28)) (.cons (.raw (kE (kS (sA (bdS (st 96)) 5) 0) 2)) .nil)) (pp 741 11 39)) (pp 741 4 39))
 .nil))))))
theorem F_t96:FnOk (st 96) t96 ["state","name"] ["state","name"] [] [95,27]:=⟨bind2 (by intros;kernel_rfl),by kernel_rfl,rfl,by kernel_rfl,by kernel_rfl⟩
noncomputable def at96_0:T:=(.loc 1 (pp 741 30 34))
noncomputable def bt96_0:T:=(.con (.int (1)) 0 (pp 741 35 36))
theorem S_t96_0:rawE (kE (kS (sA (bdS (st 96)) 5) 0) 2)=.Subscript (hd (den ["state","name"] [] at96_0)) (.Slice (some (hd (den ["state","name"] [] bt96_0))) none none (pp 741 35 37)) (pp 741 30 38):=by kernel_rfl
noncomputable def t97:T:=(.cons (.asg (.loc 2 (pp 743 4 8)) (.att (.loc 1 (pp 743 11 22)) 0 (pp 743 11 27)) (pp 743 4 27))
 (.cons (.iff (.cmp .Eq (.loc 2 (pp 744 7 11)) (.con (.str "call") 0 (pp 744 15 21)) (pp 744 7 21)) (.cons (.asg (.loc 3 (pp 745 8 14)) (.cal (.glb 94 (pp 745 17 26)) (.cons (.loc 0 (pp 745 27 32)) (.cons (.sub (.att (.loc 1 (pp 745 34 45)) 31 (pp 745 34 54)) (.con (.int (0)) 0 (pp 745 55 56)) (pp 745 34 57)) .nil)) (pp 745 17 58)) (pp 745 8 58))
 (.cons (.exs (.mth (.loc 0 (pp 746 8 13)) 51 10 (pp 746 8 18) (.cons (.att (.loc 0 (pp 746 19 24)) 17 (pp 746 19 28)) (.cons (.con (.int (8)) 0 (pp 746 30 31)) .nil)) (pp 746 8 32)) (pp 746 8 32))
 (.cons (.asg (.att (.loc 0 (pp 747 8 13)) 17 (pp 747 8 17)) (.loc 3 (pp 747 20 26)) (pp 747 8 26))
 .nil))) (.cons (.iff (.cmp .Eq (.loc 2 (pp 748 9 13)) (.con (.str "ret") 0 (pp 748 17 22)) (pp 748 9 22)) (.cons (.asg (.att (.loc 0 (pp 749 8 13)) 17 (pp 749 8 17)) (.mth (.loc 0 (pp 749 20 25)) 51 11 (pp 749 20 29) (.cons (.con (.int (8)) 0 (pp 749 30 31)) .nil) (pp 749 20 32)) (pp 749 8 32))
 (.cons (.iff (.cmp .Eq (.cal (.glb 215 (pp 750 11 14)) (.cons (.att (.loc 1 (pp 750 15 26)) 31 (pp 750 15 35)) .nil) (pp 750 11 36)) (.con (.int (1)) 0 (pp 750 40 41)) (pp 750 11 41)) (.cons (.asg (.sub (.att (.loc 0 (pp 751 12 17)) 13 (pp 751 12 22)) (.glb 201 (pp 751 23 26)) (pp 751 12 27)) (.cal (.glb 6 (pp 751 30 34)) (.cons (.bin .Add (.sub (.att (.loc 0 (pp 751 35 40)) 13 (pp 751 35 45)) (.glb 201 (pp 751 46 49)) (pp 751 35 50)) (.att (.sub (.att (.loc 1 (pp 751 53 64)) 31 (pp 751 53 73)) (.con (.int (0)) 0 (pp 751 74 75)) (pp 751 53 76)) 26 (pp 751 53 82)) (pp 751 35 82)) (.cons (.con (.int (64)) 0 (pp 751 84 86)) .nil)) (pp 751 30 87)) (pp 751 12 87))
 .nil) .nil ⟨750,8,751,87⟩)
 .nil)) (.cons (.iff (.bop .Or (.cons (.cmp .Eq (.sub (.loc 2 (pp 752 9 13)) (.con (.int (0)) 0 (pp 752 14 15)) (pp 752 9 16)) (.con (.str "j") 0 (pp 752 20 23)) (pp 752 9 23)) (.cons (.cmp .Eq (.loc 2 (pp 752 27 31)) (.con (.str "loop") 0 (pp 752 35 41)) (pp 752 27 41)) (.cons (.cmp .Eq (.loc 2 (pp 752 45 49)) (.con (.str "loope") 0 (pp 752 53 60)) (pp 752 45 60)) (.cons (.cmp .Eq (.loc 2 (pp 752 65 69)) (.con (.str "loopne") 0 (pp 752 73 81)) (pp 752 65 81)) .nil)))) (pp 752 9 82)) (.cons (.asg (.loc 3 (pp 753 8 14)) (.cal (.glb 94 (pp 753 17 26)) (.cons (.loc 0 (pp 753 27 32)) (.cons (.sub (.att (.loc 1 (pp 753 34 45)) 31 (pp 753 34 54)) (.con (.int (0)) 0 (pp 753 55 56)) (pp 753 34 57)) .nil)) (pp 753 17 58)) (pp 753 8 58))
 (.cons (.iff (.cal (.glb 96 (pp 754 11 19)) (.cons (.loc 0 (pp 754 20 25)) (.cons (.loc 2 (pp 754 27 31)) .nil)) (pp 754 11 32)) (.cons (.asg (.att (.loc 0 (pp 755 12 17)) 17 (pp 755 12 21)) (.loc 3 (pp 755 24 30)) (pp 755 12 30))
 .nil) .nil ⟨754,8,755,30⟩)
 .nil)) (.cons (.ret (.con (.bool false) 0 (pp 757 15 20)) (pp 757 8 20))
 .nil) ⟨752,4,757,20⟩)
 .nil) ⟨748,4,757,20⟩)
 .nil) ⟨744,4,757,20⟩)
 (.cons (.ret (.con (.bool true) 0 (pp 758 11 15)) (pp 758 4 15))
 .nil)))
theorem F_t97:FnOk (st 97) t97 ["state","instruction","name","target"] ["state","instruction"] ["name","target"] [94,215,201,6,96]:=⟨bind2 (by intros;kernel_rfl),by kernel_rfl,rfl,by kernel_rfl,by kernel_rfl⟩
noncomputable def t99:T:=(.cons (.ret (.lst false (.cons (.raw (kE (kS (sA (bdS (st 99)) 0) 0) 0)) (.cons (.con (.int (0)) 0 (pp 761 49 50)) (.cons (.con (.int (0)) 0 (pp 761 52 53)) .nil))) (pp 761 11 54)) (pp 761 4 54))
 .nil)
theorem F_t99:FnOk (st 99) t99 ["script"] ["script"] [] []:=⟨bind1 (by intros;kernel_rfl),by kernel_rfl,rfl,by kernel_rfl,by kernel_rfl⟩
noncomputable def at99_0:T:=(.loc 0 (pp 761 35 41))
noncomputable def bt99_0:T:=(.con (.int (40)) 0 (pp 761 43 45))
theorem S_t99_0:rawE (lcI (kE (kS (sA (bdS (st 99)) 0) 0) 0))=.Subscript (hd (den ["script"] [] at99_0)) (.Slice none (some (hd (den ["script"] [] bt99_0))) none (pp 761 42 45)) (pp 761 35 46):=by kernel_rfl
noncomputable def et99_1:T:=(.cal (.glb 207 (pp 761 13 16)) (.cons (.loc 1 (pp 761 17 21)) .nil) (pp 761 13 22))
noncomputable def gt99_1:T:=(.loc 1 (pp 761 27 31))
noncomputable def ft99_1:T:=.nil
noncomputable def jt99_1:T:=(.raw (lcI (kE (kS (sA (bdS (st 99)) 0) 0) 0)))
theorem S_t99_1:rawE (kE (kS (sA (bdS (st 99)) 0) 0) 0)=.ListComp (hd (den [".0","cell"] [] et99_1)) [⟨hd (den [".0","cell"] [] gt99_1),hd (den ["script"] [] jt99_1),den [".0","cell"] [] ft99_1,0⟩] (lcS (kE (kS (sA (bdS (st 99)) 0) 0) 0)) (pp 761 12 47):=by kernel_rfl
theorem L_t99_1 {Q:Bt} {n:Nat} {env:Env} {own:Bool} {gs:List Nat}:LcOk ⟨Q,n,env,["script"],[],[],own,gs⟩ (scS (st 99)) (lcS (kE (kS (sA (bdS (st 99)) 0) 0) 0)) [".0","cell"] [] [] [207]:=⟨by kernel_rfl,by kernel_rfl,rfl,by kernel_rfl⟩
noncomputable def t100:T:=(.cons (.iff (.cmp .Gt (.sub (.loc 0 (pp 763 7 10)) (.con (.int (2)) 0 (pp 763 11 12)) (pp 763 7 13)) (.con (.int (0)) 0 (pp 763 16 17)) (pp 763 7 17)) (.cons (.asg (.loc 2 (pp 764 8 13)) (.bin .Mod (.cal (.glb 207 (pp 764 16 19)) (.cons (.sub (.loc 0 (pp 764 20 23)) (.con (.int (2)) 0 (pp 764 24 25)) (pp 764 20 26)) .nil) (pp 764 16 27)) (.loc 1 (pp 764 30 34)) (pp 764 16 34)) (pp 764 8 34))
 (.cons (.asg (.sub (.loc 0 (pp 765 8 11)) (.con (.int (2)) 0 (pp 765 12 13)) (pp 765 8 14)) (.bin .FloorDiv (.cal (.glb 207 (pp 765 17 20)) (.cons (.sub (.loc 0 (pp 765 21 24)) (.con (.int (2)) 0 (pp 765 25 26)) (pp 765 21 27)) .nil) (pp 765 17 28)) (.loc 1 (pp 765 32 36)) (pp 765 17 36)) (pp 765 8 36))
 (.cons (.ret (.loc 2 (pp 766 15 20)) (pp 766 8 20))
 .nil))) .nil ⟨763,4,766,20⟩)
 (.cons (.asg (.loc 3 (pp 767 4 8)) (.sub (.loc 0 (pp 767 11 14)) (.con (.int (1)) 0 (pp 767 15 16)) (pp 767 11 17)) (pp 767 4 17))
 (.cons (.asg (.sub (.loc 0 (pp 768 4 7)) (.con (.int (1)) 0 (pp 768 8 9)) (pp 768 4 10)) (.bin .Add (.loc 3 (pp 768 13 17)) (.con (.int (1)) 0 (pp 768 20 21)) (pp 768 13 21)) (pp 768 4 21))
 (.cons (.asg (.loc 4 (pp 769 4 8)) (.bin .Add (.bin .Add (.bin .Mult (.con (.int (58153)) 0 (pp 769 11 16)) (.loc 3 (pp 769 19 23)) (pp 769 11 23)) (.con (.int (5119)) 0 (pp 769 26 30)) (pp 769 11 30)) (.bin .Mod (.cal (.glb 207 (pp 769 33 36)) (.cons (.cal (.glb 213 (pp 769 37 40)) (.cons (.raw (kE (kE (kE (kE (kS (sA (bdS (st 100)) 3) 1) 1) 0) 1) 1)) .nil) (pp 769 37 52)) .nil) (pp 769 33 53)) (.con (.int (1000003)) 0 (pp 769 56 63)) (pp 769 33 63)) (pp 769 11 63)) (pp 769 4 63))
 (.cons (.iff (.cmp .NotEq (.sub (.loc 0 (pp 770 7 10)) (.con (.int (0)) 0 (pp 770 11 12)) (pp 770 7 13)) (.lst false .nil (pp 770 17 19)) (pp 770 7 19)) (.cons (.asg (.loc 4 (pp 771 8 12)) (.sub (.sub (.loc 0 (pp 771 15 18)) (.con (.int (0)) 0 (pp 771 19 20)) (pp 771 15 21)) (.bin .Mod (.cal (.glb 207 (pp 771 22 25)) (.cons (.loc 3 (pp 771 26 30)) .nil) (pp 771 22 31)) (.cal (.glb 215 (pp 771 34 37)) (.cons (.sub (.loc 0 (pp 771 38 41)) (.con (.int (0)) 0 (pp 771 42 43)) (pp 771 38 44)) .nil) (pp 771 34 45)) (pp 771 22 45)) (pp 771 15 46)) (pp 771 8 46))
 .nil) .nil ⟨770,4,771,46⟩)
 (.cons (.iff (.bop .And (.cons (.cmp .Lt (.loc 3 (pp 772 7 11)) (.cal (.glb 215 (pp 772 14 17)) (.cons (.sub (.loc 0 (pp 772 18 21)) (.con (.int (0)) 0 (pp 772 22 23)) (pp 772 18 24)) .nil) (pp 772 14 25)) (pp 772 7 25)) (.cons (.cmp .GtE (.cal (.glb 214 (pp 772 30 33)) (.cons (.loc 4 (pp 772 34 38)) .nil) (pp 772 30 39)) (.bin .Pow (.con (.int (10)) 0 (pp 772 43 45)) (.con (.int (18)) 0 (pp 772 49 51)) (pp 772 43 51)) (pp 772 30 51)) .nil)) (pp 772 7 51)) (.cons (.asg (.loc 5 (pp 773 8 13)) (.bin .Add (.bin .Mult (.con (.int (2)) 0 (pp 773 16 17)) (.bin .Sub (.cal (.glb 214 (pp 773 21 24)) (.cons (.loc 4 (pp 773 25 29)) .nil) (pp 773 21 30)) (.bin .Pow (.con (.int (10)) 0 (pp 773 33 35)) (.con (.int (18)) 0 (pp 773 39 41)) (pp 773 33 41)) (pp 773 21 41)) (pp 773 16 42)) (.cal (.glb 207 (pp 773 45 48)) (.cons (.cmp .Lt (.loc 4 (pp 773 49 53)) (.con (.int (0)) 0 (pp 773 56 57)) (pp 773 49 57)) .nil) (pp 773 45 58)) (pp 773 16 58)) (pp 773 8 58))
 (.cons (.asg (.sub (.loc 0 (pp 774 8 11)) (.con (.int (2)) 0 (pp 774 12 13)) (pp 774 8 14)) (.bin .FloorDiv (.cal (.glb 207 (pp 774 17 20)) (.cons (.loc 5 (pp 774 21 26)) .nil) (pp 774 17 27)) (.loc 1 (pp 774 31 35)) (pp 774 17 35)) (pp 774 8 35))
 (.cons (.ret (.bin .Mod (.cal (.glb 207 (pp 775 15 18)) (.cons (.loc 5 (pp 775 19 24)) .nil) (pp 775 15 25)) (.loc 1 (pp 775 28 32)) (pp 775 15 32)) (pp 775 8 32))
 .nil))) .nil ⟨772,4,775,32⟩)
 (.cons (.asg (.loc 6 (pp 776 4 9)) (.bin .Mod (.cal (.glb 207 (pp 776 12 15)) (.cons (.bin .Pow (.bin .Add (.bin .Add (.bin .Mod (.cal (.glb 207 (pp 776 17 20)) (.cons (.loc 4 (pp 776 21 25)) .nil) (pp 776 17 26)) (.con (.int (2147483587)) 0 (pp 776 29 39)) (pp 776 17 39)) (.bin .Mult (.con (.int (58153)) 0 (pp 776 42 47)) (.loc 3 (pp 776 50 54)) (pp 776 42 54)) (pp 776 17 54)) (.con (.int (5119)) 0 (pp 776 57 61)) (pp 776 17 61)) (.con (.int (5)) 0 (pp 776 66 67)) (pp 776 16 67)) .nil) (pp 776 12 68)) (.con (.int (2147483629)) 0 (pp 776 71 81)) (pp 776 12 81)) (pp 776 4 81))
 (.cons (.asg (.loc 6 (pp 777 4 9)) (.bin .Mod (.cal (.glb 207 (pp 777 12 15)) (.cons (.bin .Pow (.bin .Add (.bin .Add (.bin .Mult (.loc 6 (pp 777 17 22)) (.bin .Add (.bin .Mult (.con (.int (2)) 0 (pp 777 26 27)) (.loc 3 (pp 777 30 34)) (pp 777 26 34)) (.con (.int (8087)) 0 (pp 777 37 41)) (pp 777 26 41)) (pp 777 17 42)) (.bin .Mult (.bin .Mult (.con (.int (58153)) 0 (pp 777 45 50)) (.loc 3 (pp 777 53 57)) (pp 777 45 57)) (.loc 3 (pp 777 60 64)) (pp 777 45 64)) (pp 777 17 64)) (.con (.int (71)) 0 (pp 777 67 69)) (pp 777 17 69)) (.con (.int (3)) 0 (pp 777 74 75)) (pp 777 16 75)) .nil) (pp 777 12 76)) (.con (.int (2147483579)) 0 (pp 777 79 89)) (pp 777 12 89)) (pp 777 4 89))
 (.cons (.ret (.bin .Mod (.cal (.glb 207 (pp 778 11 14)) (.cons (.bin .FloorDiv (.loc 6 (pp 778 15 20)) (.con (.int (32)) 0 (pp 778 24 26)) (pp 778 15 26)) .nil) (pp 778 11 27)) (.loc 1 (pp 778 30 34)) (pp 778 11 34)) (pp 778 4 34))
 .nil)))))))))
theorem F_t100:FnOk (st 100) t100 ["pen","many","digit","spot","cell","great","mixed"] ["pen","many"] ["digit","spot","cell","great","mixed"] [207,213,215,214]:=⟨bind2 (by intros;kernel_rfl),by kernel_rfl,rfl,by kernel_rfl,by kernel_rfl⟩
noncomputable def at100_0:T:=(.sub (.loc 0 (pp 769 41 44)) (.con (.int (0)) 0 (pp 769 45 46)) (pp 769 41 47))
noncomputable def bt100_0:T:=(.con (.int (1)) 0 (pp 769 49 50))
theorem S_t100_0:rawE (kE (kE (kE (kE (kS (sA (bdS (st 100)) 3) 1) 1) 0) 1) 1)=.Subscript (hd (den ["pen","many","digit","spot","cell","great","mixed"] [] at100_0)) (.Slice none (some (hd (den ["pen","many","digit","spot","cell","great","mixed"] [] bt100_0))) none (pp 769 48 50)) (pp 769 41 51):=by kernel_rfl
noncomputable def t101:T:=(.cons (.ret (.sub (.loc 1 (pp 780 11 15)) (.cal (.glb 100 (pp 780 16 25)) (.cons (.loc 0 (pp 780 26 29)) (.cons (.cal (.glb 215 (pp 780 31 34)) (.cons (.loc 1 (pp 780 35 39)) .nil) (pp 780 31 40)) .nil)) (pp 780 16 41)) (pp 780 11 42)) (pp 780 4 42))
 .nil)
theorem F_t101:FnOk (st 101) t101 ["pen","some"] ["pen","some"] [] [100,215]:=⟨bind2 (by intros;kernel_rfl),by kernel_rfl,rfl,by kernel_rfl,by kernel_rfl⟩
noncomputable def t102:T:=(.cons (.iff (.cmp .Eq (.cal (.glb 100 (pp 782 7 16)) (.cons (.loc 0 (pp 782 17 20)) (.cons (.con (.int (2)) 0 (pp 782 22 23)) .nil)) (pp 782 7 24)) (.con (.int (1)) 0 (pp 782 28 29)) (pp 782 7 29)) (.cons (.ret (.tup (.cons (.con (.str "var") 0 (pp 783 16 21)) (.cons (.cal (.glb 100 (pp 783 23 32)) (.cons (.loc 0 (pp 783 33 36)) (.cons (.loc 1 (pp 783 38 42)) .nil)) (pp 783 23 43)) .nil)) 0 (pp 783 15 44)) (pp 783 8 44))
 .nil) .nil ⟨782,4,783,44⟩)
 (.cons (.ret (.tup (.cons (.con (.str "num") 0 (pp 784 12 17)) (.cons (.cal (.glb 101 (pp 784 19 28)) (.cons (.loc 0 (pp 784 29 32)) (.cons (.lst true (.cons (.cal (.glb 100 (pp 784 35 44)) (.cons (.loc 0 (pp 784 45 48)) (.cons (.con (.int (10)) 0 (pp 784 50 52)) .nil)) (pp 784 35 53)) (.cons (.bin .Sub (.un .USub (.con (.int (1)) 0 (pp 784 56 57)) (pp 784 55 57)) (.cal (.glb 100 (pp 784 60 69)) (.cons (.loc 0 (pp 784 70 73)) (.cons (.con (.int (300)) 0 (pp 784 75 78)) .nil)) (pp 784 60 79)) (pp 784 55 79)) (.cons (.bin .Sub (.cal (.glb 100 (pp 784 81 90)) (.cons (.loc 0 (pp 784 91 94)) (.cons (.bin .Pow (.con (.int (2)) 0 (pp 784 96 97)) (.con (.int (32)) 0 (pp 784 101 103)) (pp 784 96 103)) .nil)) (pp 784 81 104)) (.bin .Pow (.con (.int (2)) 0 (pp 784 107 108)) (.con (.int (31)) 0 (pp 784 112 114)) (pp 784 107 114)) (pp 784 81 114)) (.cons (.cal (.glb 100 (pp 784 116 125)) (.cons (.loc 0 (pp 784 126 129)) (.cons (.bin .Pow (.con (.int (2)) 0 (pp 784 131 132)) (.con (.int (64)) 0 (pp 784 136 138)) (pp 784 131 138)) .nil)) (pp 784 116 139)) .nil)))) (pp 784 34 140)) .nil)) (pp 784 19 141)) .nil)) 0 (pp 784 11 142)) (pp 784 4 142))
 .nil))
theorem F_t102:FnOk (st 102) t102 ["pen","many"] ["pen","many"] [] [100,101]:=⟨bind2 (by intros;kernel_rfl),by kernel_rfl,rfl,by kernel_rfl,by kernel_rfl⟩
noncomputable def t103:T:=(.cons (.asg (.loc 3 (pp 786 4 7)) (.cal (.glb 100 (pp 786 10 19)) (.cons (.loc 0 (pp 786 20 23)) (.cons (.con (.int (6)) 0 (pp 786 25 26)) .nil)) (pp 786 10 27)) (pp 786 4 27))
 (.cons (.iff (.bop .Or (.cons (.cmp .Eq (.loc 1 (pp 787 7 11)) (.con (.int (0)) 0 (pp 787 15 16)) (pp 787 7 16)) (.cons (.bop .And (.cons (.cmp .Eq (.loc 3 (pp 787 21 24)) (.con (.int (5)) 0 (pp 787 28 29)) (pp 787 21 29)) (.cons (.cmp .Eq (.loc 2 (pp 787 34 38)) (.con (.int (2)) 0 (pp 787 42 43)) (pp 787 34 43)) .nil)) (pp 787 21 43)) .nil)) (pp 787 7 44)) (.cons (.ret (.cal (.glb 102 (pp 788 15 24)) (.cons (.loc 0 (pp 788 25 28)) (.cons (.loc 2 (pp 788 30 34)) .nil)) (pp 788 15 35)) (pp 788 8 35))
 .nil) .nil ⟨787,4,788,35⟩)
 (.cons (.asg (.loc 4 (pp 789 4 7)) (.cal (.glb 103 (pp 789 10 20)) (.cons (.loc 0 (pp 789 21 24)) (.cons (.bin .Sub (.loc 1 (pp 789 26 30)) (.con (.int (1)) 0 (pp 789 33 34)) (pp 789 26 34)) (.cons (.loc 2 (pp 789 36 40)) .nil))) (pp 789 10 41)) (pp 789 4 41))
 (.cons (.iff (.cmp .Eq (.loc 3 (pp 790 7 10)) (.con (.int (4)) 0 (pp 790 14 15)) (pp 790 7 15)) (.cons (.ret (.tup (.cons (.con (.str "neg") 0 (pp 791 16 21)) (.cons (.loc 4 (pp 791 23 26)) .nil)) 0 (pp 791 15 27)) (pp 791 8 27))
 .nil) .nil ⟨790,4,791,27⟩)
 (.cons (.asg (.loc 5 (pp 792 4 9)) (.ife (.cmp .Lt (.cal (.glb 100 (pp 792 36 45)) (.cons (.loc 0 (pp 792 46 49)) (.cons (.con (.int (3)) 0 (pp 792 51 52)) .nil)) (pp 792 36 53)) (.con (.int (2)) 0 (pp 792 56 57)) (pp 792 36 57)) (.cal (.glb 102 (pp 792 12 21)) (.cons (.loc 0 (pp 792 22 25)) (.cons (.loc 2 (pp 792 27 31)) .nil)) (pp 792 12 32)) (.cal (.glb 103 (pp 792 63 73)) (.cons (.loc 0 (pp 792 74 77)) (.cons (.bin .Sub (.loc 1 (pp 792 79 83)) (.con (.int (1)) 0 (pp 792 86 87)) (pp 792 79 87)) (.cons (.loc 2 (pp 792 89 93)) .nil))) (pp 792 63 94)) (pp 792 12 94)) (pp 792 4 94))
 (.cons (.iff (.cmp .Eq (.loc 3 (pp 793 7 10)) (.con (.int (5)) 0 (pp 793 14 15)) (pp 793 7 15)) (.cons (.ret (.tup (.cons (.con (.str "call") 0 (pp 794 16 22)) (.cons (.loc 4 (pp 794 24 27)) (.cons (.loc 5 (pp 794 29 34)) .nil))) 0 (pp 794 15 35)) (pp 794 8 35))
 .nil) .nil ⟨793,4,794,35⟩)
 (.cons (.ret (.tup (.cons (.con (.str "two") 0 (pp 795 12 17)) (.cons (.cal (.glb 101 (pp 795 19 28)) (.cons (.loc 0 (pp 795 29 32)) (.cons (.lst true (.cons (.con (.str "-") 0 (pp 795 35 38)) (.cons (.con (.str "*") 0 (pp 795 40 43)) (.cons (.con (.str "+") 0 (pp 795 45 48)) (.cons (.con (.str "max") 0 (pp 795 50 55)) (.cons (.con (.str "and") 0 (pp 795 57 62)) (.cons (.con (.str "or") 0 (pp 795 64 68)) (.cons (.con (.str "xor") 0 (pp 795 70 75)) (.cons (.con (.str "*") 0 (pp 795 77 80)) .nil)))))))) (pp 795 34 81)) .nil)) (pp 795 19 82)) (.cons (.loc 4 (pp 795 84 87)) (.cons (.loc 5 (pp 795 89 94)) .nil)))) 0 (pp 795 11 95)) (pp 795 4 95))
 .nil)))))))
theorem F_t103:FnOk (st 103) t103 ["pen","left","many","way","one","other"] ["pen","left","many"] ["way","one","other"] [100,102,103,101]:=⟨bind3 (by intros;kernel_rfl),by kernel_rfl,rfl,by kernel_rfl,by kernel_rfl⟩
noncomputable def t104:T:=(.cons (.asg (.loc 2 (pp 797 4 8)) (.cal (.glb 101 (pp 797 11 20)) (.cons (.loc 0 (pp 797 21 24)) (.cons (.lst true (.cons (.con (.str "e") 0 (pp 797 27 30)) (.cons (.con (.str "ne") 0 (pp 797 32 36)) (.cons (.con (.str "l") 0 (pp 797 38 41)) (.cons (.con (.str "ge") 0 (pp 797 43 47)) (.cons (.con (.str "le") 0 (pp 797 49 53)) (.cons (.con (.str "g") 0 (pp 797 55 58)) (.cons (.con (.str "b") 0 (pp 797 60 63)) (.cons (.con (.str "ae") 0 (pp 797 65 69)) (.cons (.con (.str "be") 0 (pp 797 71 75)) (.cons (.con (.str "a") 0 (pp 797 77 80)) .nil)))))))))) (pp 797 26 81)) .nil)) (pp 797 11 82)) (pp 797 4 82))
 (.cons (.ret (.tup (.cons (.loc 2 (pp 798 12 16)) (.cons (.cal (.glb 103 (pp 798 18 28)) (.cons (.loc 0 (pp 798 29 32)) (.cons (.con (.int (1)) 0 (pp 798 34 35)) (.cons (.loc 1 (pp 798 37 41)) .nil))) (pp 798 18 42)) (.cons (.cal (.glb 102 (pp 798 44 53)) (.cons (.loc 0 (pp 798 54 57)) (.cons (.loc 1 (pp 798 59 63)) .nil)) (pp 798 44 64)) .nil))) 0 (pp 798 11 65)) (pp 798 4 65))
 .nil))
theorem F_t104:FnOk (st 104) t104 ["pen","many","name"] ["pen","many"] ["name"] [101,103,102]:=⟨bind2 (by intros;kernel_rfl),by kernel_rfl,rfl,by kernel_rfl,by kernel_rfl⟩
noncomputable def t105:T:=(.cons (.ret (.tup (.cons (.con (.str "set") 0 (pp 800 12 17)) (.cons (.cal (.glb 100 (pp 800 19 28)) (.cons (.loc 0 (pp 800 29 32)) (.cons (.con (.int (4)) 0 (pp 800 34 35)) .nil)) (pp 800 19 36)) (.cons (.cal (.glb 103 (pp 800 38 48)) (.cons (.loc 0 (pp 800 49 52)) (.cons (.loc 1 (pp 800 54 58)) (.cons (.con (.int (4)) 0 (pp 800 60 61)) .nil))) (pp 800 38 62)) .nil))) 0 (pp 800 11 63)) (pp 800 4 63))
 .nil)
theorem F_t105:FnOk (st 105) t105 ["pen","left"] ["pen","left"] [] [100,103]:=⟨bind2 (by intros;kernel_rfl),by kernel_rfl,rfl,by kernel_rfl,by kernel_rfl⟩
noncomputable def t107:T:=(.cons (.ret (.ife (.cmp .GtE (.loc 0 (pp 809 30 35)) (.bin .Pow (.con (.int (2)) 0 (pp 809 39 40)) (.con (.int (63)) 0 (pp 809 44 46)) (pp 809 39 46)) (pp 809 30 46)) (.bin .Sub (.loc 0 (pp 809 11 16)) (.bin .Pow (.con (.int (2)) 0 (pp 809 19 20)) (.con (.int (64)) 0 (pp 809 24 26)) (pp 809 19 26)) (pp 809 11 26)) (.loc 0 (pp 809 52 57)) (pp 809 11 57)) (pp 809 4 57))
 .nil)
theorem F_t107:FnOk (st 107) t107 ["worth"] ["worth"] [] []:=⟨bind1 (by intros;kernel_rfl),by kernel_rfl,rfl,by kernel_rfl,by kernel_rfl⟩
noncomputable def t108:T:=(.cons (.iff (.cmp .In (.loc 0 (pp 811 7 11)) (.tup (.cons (.con (.str "l") 0 (pp 811 16 19)) (.cons (.con (.str "ge") 0 (pp 811 21 25)) (.cons (.con (.str "le") 0 (pp 811 27 31)) (.cons (.con (.str "g") 0 (pp 811 33 36)) .nil)))) 0 (pp 811 15 37)) (pp 811 7 37)) (.cons (.asT true (.cons (.loc 1 (pp 812 8 11)) (.cons (.loc 2 (pp 812 13 18)) .nil)) 0 (pp 812 8 18) (.tup (.cons (.cal (.glb 107 (pp 812 22 33)) (.cons (.loc 1 (pp 812 34 37)) .nil) (pp 812 22 38)) (.cons (.cal (.glb 107 (pp 812 40 51)) (.cons (.loc 2 (pp 812 52 57)) .nil) (pp 812 40 58)) .nil)) 0 (pp 812 21 59)) (pp 812 8 59))
 .nil) .nil ⟨811,4,812,59⟩)
 (.cons (.ret (.sub (.raw (kE (kS (sA (bdS (st 108)) 1) 0) 0)) (.loc 0 (pp 813 203 207)) (pp 813 11 208)) (pp 813 4 208))
 .nil))
theorem F_t108:FnOk (st 108) t108 ["name","one","other"] ["name","one","other"] [] [107]:=⟨bind3 (by intros;kernel_rfl),by kernel_rfl,rfl,by kernel_rfl,by kernel_rfl⟩
noncomputable def vt108_0:T:=(.cons (.cmp .Eq (.loc 1 (pp 813 17 20)) (.loc 2 (pp 813 24 29)) (pp 813 17 29)) (.cons (.cmp .NotEq (.loc 1 (pp 813 37 40)) (.loc 2 (pp 813 44 49)) (pp 813 37 49)) (.cons (.cmp .Lt (.loc 1 (pp 813 56 59)) (.loc 2 (pp 813 62 67)) (pp 813 56 67)) (.cons (.cmp .Lt (.loc 1 (pp 813 74 77)) (.loc 2 (pp 813 80 85)) (pp 813 74 85)) (.cons (.cmp .GtE (.loc 1 (pp 813 93 96)) (.loc 2 (pp 813 100 105)) (pp 813 93 105)) (.cons (.cmp .GtE (.loc 1 (pp 813 113 116)) (.loc 2 (pp 813 120 125)) (pp 813 113 125)) (.cons (.cmp .LtE (.loc 1 (pp 813 133 136)) (.loc 2 (pp 813 140 145)) (pp 813 133 145)) (.cons (.cmp .LtE (.loc 1 (pp 813 153 156)) (.loc 2 (pp 813 160 165)) (pp 813 153 165)) (.cons (.cmp .Gt (.loc 1 (pp 813 172 175)) (.loc 2 (pp 813 178 183)) (pp 813 172 183)) (.cons (.cmp .Gt (.loc 1 (pp 813 190 193)) (.loc 2 (pp 813 196 201)) (pp 813 190 201)) .nil))))))))))
theorem S_t108_0:rawE (kE (kS (sA (bdS (st 108)) 1) 0) 0)=.Dict (dK [("e",(pp 813 12 15)),("ne",(pp 813 31 35)),("l",(pp 813 51 54)),("b",(pp 813 69 72)),("ge",(pp 813 87 91)),("ae",(pp 813 107 111)),("le",(pp 813 127 131)),("be",(pp 813 147 151)),("g",(pp 813 167 170)),("a",(pp 813 185 188))]) (den ["name","one","other"] [] vt108_0) (pp 813 11 202):=by kernel_rfl
noncomputable def t110:T:=(.cons (.frr (.loc 3 (pp 835 8 17)) (.loc 0 (pp 835 21 31)) (.cons (.iff (.cmp .Eq (.sub (.loc 3 (pp 836 11 20)) (.con (.int (0)) 0 (pp 836 21 22)) (pp 836 11 23)) (.con (.str "set") 0 (pp 836 27 32)) (pp 836 11 32)) (.cons (.asg (.sub (.loc 1 (pp 837 12 16)) (.sub (.loc 3 (pp 837 17 26)) (.con (.int (1)) 0 (pp 837 27 28)) (pp 837 17 29)) (pp 837 12 30)) (.cal (.glb 109 (pp 837 33 42)) (.cons (.sub (.loc 3 (pp 837 43 52)) (.con (.int (2)) 0 (pp 837 53 54)) (pp 837 43 55)) (.cons (.loc 1 (pp 837 57 61)) (.cons (.loc 2 (pp 837 63 71)) .nil))) (pp 837 33 72)) (pp 837 12 72))
 .nil) (.cons (.iff (.cmp .Eq (.sub (.loc 3 (pp 838 13 22)) (.con (.int (0)) 0 (pp 838 23 24)) (pp 838 13 25)) (.con (.str "if") 0 (pp 838 29 33)) (pp 838 13 33)) (.cons (.asT false (.cons (.loc 4 (pp 839 12 16)) (.cons (.loc 5 (pp 839 18 21)) (.cons (.loc 6 (pp 839 23 28)) .nil))) 0 (pp 839 12 28) (.sub (.loc 3 (pp 839 31 40)) (.con (.int (1)) 0 (pp 839 41 42)) (pp 839 31 43)) (pp 839 12 43))
 (.cons (.asg (.loc 7 (pp 840 12 17)) (.cal (.glb 108 (pp 840 20 30)) (.cons (.loc 4 (pp 840 31 35)) (.cons (.cal (.glb 109 (pp 840 37 46)) (.cons (.loc 5 (pp 840 47 50)) (.cons (.loc 1 (pp 840 52 56)) (.cons (.loc 2 (pp 840 58 66)) .nil))) (pp 840 37 67)) (.cons (.cal (.glb 109 (pp 840 69 78)) (.cons (.loc 6 (pp 840 79 84)) (.cons (.loc 1 (pp 840 86 90)) (.cons (.loc 2 (pp 840 92 100)) .nil))) (pp 840 69 101)) .nil))) (pp 840 20 102)) (pp 840 12 102))
 (.cons (.exs (.cal (.glb 110 (pp 841 12 19)) (.cons (.ife (.loc 7 (pp 841 36 41)) (.sub (.loc 3 (pp 841 20 29)) (.con (.int (2)) 0 (pp 841 30 31)) (pp 841 20 32)) (.sub (.loc 3 (pp 841 47 56)) (.con (.int (3)) 0 (pp 841 57 58)) (pp 841 47 59)) (pp 841 20 59)) (.cons (.loc 1 (pp 841 61 65)) (.cons (.loc 2 (pp 841 67 75)) .nil))) (pp 841 12 76)) (pp 841 12 76))
 .nil))) (.cons (.frr (.loc 8 (pp 843 16 20)) (.cal (.glb 206 (pp 843 24 29)) (.cons (.sub (.loc 3 (pp 843 30 39)) (.con (.int (1)) 0 (pp 843 40 41)) (pp 843 30 42)) .nil) (pp 843 24 43)) (.cons (.exs (.cal (.glb 110 (pp 844 16 23)) (.cons (.sub (.loc 3 (pp 844 24 33)) (.con (.int (2)) 0 (pp 844 34 35)) (pp 844 24 36)) (.cons (.loc 1 (pp 844 38 42)) (.cons (.loc 2 (pp 844 44 52)) .nil))) (pp 844 16 53)) (pp 844 16 53))
 .nil) ⟨843,12,844,53⟩)
 .nil) ⟨838,8,844,53⟩)
 .nil) ⟨836,8,844,53⟩)
 .nil) ⟨835,4,844,53⟩)
 .nil)
theorem F_t110:FnOk (st 110) t110 ["statements","held","function","statement","name","one","other","is_so","turn"] ["statements","held","function"] ["statement","name","one","other","is_so","turn"] [109,108,110,206]:=⟨bind3 (by intros;kernel_rfl),by kernel_rfl,rfl,by kernel_rfl,by kernel_rfl⟩
noncomputable def t111:T:=(.cons (.ret (.cal (.glb 74 (pp 846 11 14)) (.cons (.cal (.glb 44 (pp 846 15 18)) (.cons (.loc 0 (pp 846 19 25)) (.cons (.con (.int (64)) 0 (pp 846 27 29)) .nil)) (pp 846 15 30)) .nil) (pp 846 11 31)) (pp 846 4 31))
 .nil)
theorem F_t111:FnOk (st 111) t111 ["number"] ["number"] [] [74,44]:=⟨bind1 (by intros;kernel_rfl),by kernel_rfl,rfl,by kernel_rfl,by kernel_rfl⟩
noncomputable def t112:T:=(.cons (.ret (.cal (.glb 77 (pp 848 11 14)) (.cons (.cal (.glb 44 (pp 848 15 18)) (.cons (.loc 0 (pp 848 19 23)) (.cons (.con (.int (64)) 0 (pp 848 25 27)) .nil)) (pp 848 15 28)) (.cons (.con .none 0 (pp 848 30 34)) (.cons (.con (.int (1)) 0 (pp 848 36 37)) (.cons (.loc 1 (pp 848 39 42)) (.cons (.con (.int (64)) 0 (pp 848 44 46)) .nil))))) (pp 848 11 47)) (pp 848 4 47))
 .nil)
theorem F_t112:FnOk (st 112) t112 ["base","far"] ["base","far"] [] [77,44]:=⟨bind2 (by intros;kernel_rfl),by kernel_rfl,rfl,by kernel_rfl,by kernel_rfl⟩
noncomputable def t113:T:=(.cons (.exs (.mtb (.sub (.loc 0 (pp 850 4 9)) (.con (.str "rows") 0 (pp 850 10 16)) (pp 850 4 17)) 2 (pp 850 4 24) (.cons (.tup (.cons (.loc 1 (pp 850 26 30)) (.cons (.loc 2 (pp 850 32 40)) (.cons (.un .USub (.con (.int (1)) 0 (pp 850 43 44)) (pp 850 42 44)) .nil))) 0 (pp 850 25 45)) .nil) (pp 850 4 46)) (pp 850 4 46))
 .nil)
theorem F_t113:FnOk (st 113) t113 ["maker","name","operands"] ["maker","name","operands"] [] []:=⟨bind3 (by intros;kernel_rfl),by kernel_rfl,rfl,by kernel_rfl,by kernel_rfl⟩
noncomputable def t114:T:=(.cons (.exs (.mtb (.sub (.loc 0 (pp 852 4 9)) (.con (.str "rows") 0 (pp 852 10 16)) (pp 852 4 17)) 2 (pp 852 4 24) (.cons (.tup (.cons (.loc 1 (pp 852 26 30)) (.cons (.lst true .nil (pp 852 32 34)) (.cons (.loc 2 (pp 852 36 40)) .nil))) 0 (pp 852 25 41)) .nil) (pp 852 4 42)) (pp 852 4 42))
 .nil)
theorem F_t114:FnOk (st 114) t114 ["maker","name","mark"] ["maker","name","mark"] [] []:=⟨bind3 (by intros;kernel_rfl),by kernel_rfl,rfl,by kernel_rfl,by kernel_rfl⟩
noncomputable def t115:T:=(.cons (.asg (.sub (.loc 0 (pp 854 4 9)) (.con (.str "marks") 0 (pp 854 10 17)) (pp 854 4 18)) (.bin .Add (.sub (.loc 0 (pp 854 21 26)) (.con (.str "marks") 0 (pp 854 27 34)) (pp 854 21 35)) (.con (.int (1)) 0 (pp 854 38 39)) (pp 854 21 39)) (pp 854 4 39))
 (.cons (.ret (.sub (.loc 0 (pp 855 11 16)) (.con (.str "marks") 0 (pp 855 17 24)) (pp 855 11 25)) (pp 855 4 25))
 .nil))
theorem F_t115:FnOk (st 115) t115 ["maker"] ["maker"] [] []:=⟨bind1 (by intros;kernel_rfl),by kernel_rfl,rfl,by kernel_rfl,by kernel_rfl⟩
noncomputable def t116:T:=(.cons (.exs (.cal (.glb 118 (pp 857 4 13)) (.cons (.loc 0 (pp 857 14 19)) (.cons (.loc 1 (pp 857 21 24)) (.cons (.loc 3 (pp 857 26 31)) .nil))) (pp 857 4 32)) (pp 857 4 32))
 (.cons (.exs (.cal (.glb 113 (pp 858 4 12)) (.cons (.loc 0 (pp 858 13 18)) (.cons (.con (.str "push") 0 (pp 858 20 26)) (.cons (.lst true (.cons (.cal (.glb 111 (pp 858 29 35)) (.cons (.con (.int (0)) 0 (pp 858 36 37)) .nil) (pp 858 29 38)) .nil) (pp 858 28 39)) .nil))) (pp 858 4 40)) (pp 858 4 40))
 (.cons (.exs (.cal (.glb 118 (pp 859 4 13)) (.cons (.loc 0 (pp 859 14 19)) (.cons (.loc 2 (pp 859 21 26)) (.cons (.loc 3 (pp 859 28 33)) .nil))) (pp 859 4 34)) (pp 859 4 34))
 (.cons (.exs (.cal (.glb 113 (pp 860 4 12)) (.cons (.loc 0 (pp 860 13 18)) (.cons (.ife (.cmp .Eq (.cal (.glb 100 (pp 860 29 38)) (.cons (.sub (.loc 0 (pp 860 39 44)) (.con (.str "pen") 0 (pp 860 45 50)) (pp 860 39 51)) (.cons (.con (.int (2)) 0 (pp 860 53 54)) .nil)) (pp 860 29 55)) (.con (.int (0)) 0 (pp 860 59 60)) (pp 860 29 60)) (.con (.str "mov") 0 (pp 860 20 25)) (.con (.str "xchg") 0 (pp 860 66 72)) (pp 860 20 72)) (.cons (.lst true (.cons (.cal (.glb 111 (pp 860 75 81)) (.cons (.con (.int (1)) 0 (pp 860 82 83)) .nil) (pp 860 75 84)) (.cons (.cal (.glb 111 (pp 860 86 92)) (.cons (.con (.int (0)) 0 (pp 860 93 94)) .nil) (pp 860 86 95)) .nil)) (pp 860 74 96)) .nil))) (pp 860 4 97)) (pp 860 4 97))
 (.cons (.exs (.cal (.glb 113 (pp 861 4 12)) (.cons (.loc 0 (pp 861 13 18)) (.cons (.con (.str "pop") 0 (pp 861 20 25)) (.cons (.lst true (.cons (.cal (.glb 111 (pp 861 28 34)) (.cons (.con (.int (0)) 0 (pp 861 35 36)) .nil) (pp 861 28 37)) .nil) (pp 861 27 38)) .nil))) (pp 861 4 39)) (pp 861 4 39))
 .nil)))))
theorem F_t116:FnOk (st 116) t116 ["maker","one","other","homes"] ["maker","one","other","homes"] [] [118,113,111,100]:=⟨bind4 (by intros;kernel_rfl),by kernel_rfl,rfl,by kernel_rfl,by kernel_rfl⟩
noncomputable def t117:T:=(.cons (.asg (.loc 3 (pp 863 4 7)) (.cal (.glb 100 (pp 863 10 19)) (.cons (.sub (.loc 0 (pp 863 20 25)) (.con (.str "pen") 0 (pp 863 26 31)) (pp 863 20 32)) (.cons (.con (.int (2)) 0 (pp 863 34 35)) .nil)) (pp 863 10 36)) (pp 863 4 36))
 (.cons (.iff (.bop .And (.cons (.cmp .Eq (.loc 1 (pp 864 7 11)) (.con (.str "max") 0 (pp 864 15 20)) (pp 864 7 20)) (.cons (.cmp .Eq (.att (.loc 2 (pp 864 25 32)) 1 (pp 864 25 37)) (.con (.str "imm") 0 (pp 864 41 46)) (pp 864 25 46)) .nil)) (pp 864 7 46)) (.cons (.exs (.cal (.glb 113 (pp 865 8 16)) (.cons (.loc 0 (pp 865 17 22)) (.cons (.con (.str "mov") 0 (pp 865 24 29)) (.cons (.lst true (.cons (.cal (.glb 111 (pp 865 32 38)) (.cons (.con (.int (1)) 0 (pp 865 39 40)) .nil) (pp 865 32 41)) (.cons (.loc 2 (pp 865 43 50)) .nil)) (pp 865 31 51)) .nil))) (pp 865 8 52)) (pp 865 8 52))
 (.cons (.asg (.loc 2 (pp 866 8 15)) (.cal (.glb 111 (pp 866 18 24)) (.cons (.con (.int (1)) 0 (pp 866 25 26)) .nil) (pp 866 18 27)) (pp 866 8 27))
 .nil)) .nil ⟨864,4,866,27⟩)
 (.cons (.iff (.cmp .Eq (.loc 1 (pp 867 7 11)) (.con (.str "max") 0 (pp 867 15 20)) (pp 867 7 20)) (.cons (.exs (.cal (.glb 113 (pp 868 8 16)) (.cons (.loc 0 (pp 868 17 22)) (.cons (.con (.str "cmp") 0 (pp 868 24 29)) (.cons (.lst true (.cons (.cal (.glb 111 (pp 868 32 38)) (.cons (.con (.int (0)) 0 (pp 868 39 40)) .nil) (pp 868 32 41)) (.cons (.loc 2 (pp 868 43 50)) .nil)) (pp 868 31 51)) .nil))) (pp 868 8 52)) (pp 868 8 52))
 (.cons (.exs (.cal (.glb 113 (pp 869 8 16)) (.cons (.loc 0 (pp 869 17 22)) (.cons (.con (.str "cmovl") 0 (pp 869 24 31)) (.cons (.lst true (.cons (.cal (.glb 111 (pp 869 34 40)) (.cons (.con (.int (0)) 0 (pp 869 41 42)) .nil) (pp 869 34 43)) (.cons (.loc 2 (pp 869 45 52)) .nil)) (pp 869 33 53)) .nil))) (pp 869 8 54)) (pp 869 8 54))
 .nil)) (.cons (.iff (.bop .And (.cons (.cmp .Eq (.loc 1 (pp 870 9 13)) (.con (.str "+") 0 (pp 870 17 20)) (pp 870 9 20)) (.cons (.cmp .Eq (.loc 3 (pp 870 25 28)) (.con (.int (1)) 0 (pp 870 32 33)) (pp 870 25 33)) (.cons (.cmp .Eq (.att (.loc 2 (pp 870 39 46)) 1 (pp 870 39 51)) (.con (.str "reg") 0 (pp 870 55 60)) (pp 870 39 60)) .nil))) (pp 870 9 61)) (.cons (.exs (.cal (.glb 113 (pp 871 8 16)) (.cons (.loc 0 (pp 871 17 22)) (.cons (.con (.str "lea") 0 (pp 871 24 29)) (.cons (.lst true (.cons (.cal (.glb 111 (pp 871 32 38)) (.cons (.con (.int (0)) 0 (pp 871 39 40)) .nil) (pp 871 32 41)) (.cons (.cal (.glb 77 (pp 871 43 46)) (.cons (.cal (.glb 44 (pp 871 47 50)) (.cons (.con (.int (0)) 0 (pp 871 51 52)) (.cons (.con (.int (64)) 0 (pp 871 54 56)) .nil)) (pp 871 47 57)) (.cons (.cal (.glb 44 (pp 871 59 62)) (.cons (.con (.int (1)) 0 (pp 871 63 64)) (.cons (.con (.int (64)) 0 (pp 871 66 68)) .nil)) (pp 871 59 69)) (.cons (.con (.int (1)) 0 (pp 871 71 72)) (.cons (.con (.int (0)) 0 (pp 871 74 75)) .nil)))) (pp 871 43 76)) .nil)) (pp 871 31 77)) .nil))) (pp 871 8 78)) (pp 871 8 78))
 .nil) (.cons (.iff (.bop .And (.cons (.cmp .Eq (.loc 1 (pp 872 9 13)) (.con (.str "+") 0 (pp 872 17 20)) (pp 872 9 20)) (.cons (.cmp .Eq (.loc 3 (pp 872 25 28)) (.con (.int (1)) 0 (pp 872 32 33)) (pp 872 25 33)) (.cons (.cmp .Eq (.att (.loc 2 (pp 872 39 46)) 1 (pp 872 39 51)) (.con (.str "imm") 0 (pp 872 55 60)) (pp 872 39 60)) (.cons (.chn .LtE .Lt (.un .USub (.bin .Pow (.con (.int (2)) 0 (pp 872 68 69)) (.con (.int (31)) 0 (pp 872 73 75)) (pp 872 68 75)) (pp 872 67 75)) (.att (.loc 2 (pp 872 79 86)) 26 (pp 872 79 92)) (.bin .Pow (.con (.int (2)) 0 (pp 872 95 96)) (.con (.int (31)) 0 (pp 872 100 102)) (pp 872 95 102)) (pp 872 67 102)) .nil)))) (pp 872 9 103)) (.cons (.exs (.cal (.glb 113 (pp 873 8 16)) (.cons (.loc 0 (pp 873 17 22)) (.cons (.con (.str "lea") 0 (pp 873 24 29)) (.cons (.lst true (.cons (.cal (.glb 111 (pp 873 32 38)) (.cons (.con (.int (0)) 0 (pp 873 39 40)) .nil) (pp 873 32 41)) (.cons (.cal (.glb 77 (pp 873 43 46)) (.cons (.cal (.glb 44 (pp 873 47 50)) (.cons (.con (.int (0)) 0 (pp 873 51 52)) (.cons (.con (.int (64)) 0 (pp 873 54 56)) .nil)) (pp 873 47 57)) (.cons (.con .none 0 (pp 873 59 63)) (.cons (.con (.int (1)) 0 (pp 873 65 66)) (.cons (.att (.loc 2 (pp 873 68 75)) 26 (pp 873 68 81)) .nil)))) (pp 873 43 82)) .nil)) (pp 873 31 83)) .nil))) (pp 873 8 84)) (pp 873 8 84))
 .nil) (.cons (.iff (.bop .And (.cons (.cmp .Eq (.loc 1 (pp 874 9 13)) (.con (.str "*") 0 (pp 874 17 20)) (pp 874 9 20)) (.cons (.cmp .Eq (.att (.loc 2 (pp 874 25 32)) 1 (pp 874 25 37)) (.con (.str "imm") 0 (pp 874 41 46)) (pp 874 25 46)) .nil)) (pp 874 9 46)) (.cons (.exs (.cal (.glb 113 (pp 875 8 16)) (.cons (.loc 0 (pp 875 17 22)) (.cons (.con (.str "imul") 0 (pp 875 24 30)) (.cons (.lst true (.cons (.cal (.glb 111 (pp 875 33 39)) (.cons (.con (.int (0)) 0 (pp 875 40 41)) .nil) (pp 875 33 42)) (.cons (.cal (.glb 111 (pp 875 44 50)) (.cons (.con (.int (0)) 0 (pp 875 51 52)) .nil) (pp 875 44 53)) (.cons (.loc 2 (pp 875 55 62)) .nil))) (pp 875 32 63)) .nil))) (pp 875 8 64)) (pp 875 8 64))
 .nil) (.cons (.exs (.cal (.glb 113 (pp 877 8 16)) (.cons (.loc 0 (pp 877 17 22)) (.cons (.mtb (.raw (kE (kE (kE (kS (sA (kB (sA (kB (sA (kB (sA (kB (sA (bdS (st 117)) 2) 1) 0) 1) 0) 1) 0) 1) 0) 0) 2) 0) 0)) 4 (pp 877 24 65) (.cons (.loc 1 (pp 877 66 70)) (.cons (.loc 1 (pp 877 72 76)) .nil)) (pp 877 24 77)) (.cons (.lst true (.cons (.cal (.glb 111 (pp 877 80 86)) (.cons (.con (.int (0)) 0 (pp 877 87 88)) .nil) (pp 877 80 89)) (.cons (.loc 2 (pp 877 91 98)) .nil)) (pp 877 79 99)) .nil))) (pp 877 8 100)) (pp 877 8 100))
 .nil) ⟨874,4,877,100⟩)
 .nil) ⟨872,4,877,100⟩)
 .nil) ⟨870,4,877,100⟩)
 .nil) ⟨867,4,877,100⟩)
 .nil)))
theorem F_t117:FnOk (st 117) t117 ["maker","sign","operand","way"] ["maker","sign","operand"] ["way"] [100,113,111,77,44]:=⟨bind3 (by intros;kernel_rfl),by kernel_rfl,rfl,by kernel_rfl,by kernel_rfl⟩
noncomputable def vt117_0:T:=(.cons (.con (.str "add") 0 (pp 877 30 35)) (.cons (.con (.str "sub") 0 (pp 877 42 47)) (.cons (.con (.str "imul") 0 (pp 877 54 60)) .nil)))
theorem S_t117_0:rawE (kE (kE (kE (kS (sA (kB (sA (kB (sA (kB (sA (kB (sA (bdS (st 117)) 2) 1) 0) 1) 0) 1) 0) 1) 0) 0) 2) 0) 0)=.Dict (dK [("+",(pp 877 25 28)),("-",(pp 877 37 40)),("*",(pp 877 49 52))]) (den ["maker","sign","operand","way"] [] vt117_0) (pp 877 24 61):=by kernel_rfl
noncomputable def t118:T:=(.cons (.iff (.cmp .In (.sub (.loc 1 (pp 879 7 11)) (.con (.int (0)) 0 (pp 879 12 13)) (pp 879 7 14)) (.tup (.cons (.con (.str "num") 0 (pp 879 19 24)) (.cons (.con (.str "var") 0 (pp 879 26 31)) .nil)) 0 (pp 879 18 32)) (pp 879 7 32)) (.cons (.exs (.cal (.glb 113 (pp 880 8 16)) (.cons (.loc 0 (pp 880 17 22)) (.cons (.con (.str "mov") 0 (pp 880 24 29)) (.cons (.lst true (.cons (.cal (.glb 111 (pp 880 32 38)) (.cons (.con (.int (0)) 0 (pp 880 39 40)) .nil) (pp 880 32 41)) (.cons (.ife (.cmp .Eq (.sub (.loc 1 (pp 880 59 63)) (.con (.int (0)) 0 (pp 880 64 65)) (pp 880 59 66)) (.con (.str "num") 0 (pp 880 70 75)) (pp 880 59 75)) (.cal (.glb 75 (pp 880 43 46)) (.cons (.sub (.loc 1 (pp 880 47 51)) (.con (.int (1)) 0 (pp 880 52 53)) (pp 880 47 54)) .nil) (pp 880 43 55)) (.cal (.glb 112 (pp 880 81 88)) (.cons (.con (.int (5)) 0 (pp 880 89 90)) (.cons (.sub (.loc 2 (pp 880 92 97)) (.sub (.loc 1 (pp 880 98 102)) (.con (.int (1)) 0 (pp 880 103 104)) (pp 880 98 105)) (pp 880 92 106)) .nil)) (pp 880 81 107)) (pp 880 43 107)) .nil)) (pp 880 31 108)) .nil))) (pp 880 8 109)) (pp 880 8 109))
 .nil) (.cons (.iff (.cmp .Eq (.sub (.loc 1 (pp 881 9 13)) (.con (.int (0)) 0 (pp 881 14 15)) (pp 881 9 16)) (.con (.str "neg") 0 (pp 881 20 25)) (pp 881 9 25)) (.cons (.exs (.cal (.glb 118 (pp 882 8 17)) (.cons (.loc 0 (pp 882 18 23)) (.cons (.sub (.loc 1 (pp 882 25 29)) (.con (.int (1)) 0 (pp 882 30 31)) (pp 882 25 32)) (.cons (.loc 2 (pp 882 34 39)) .nil))) (pp 882 8 40)) (pp 882 8 40))
 (.cons (.exs (.cal (.glb 113 (pp 883 8 16)) (.cons (.loc 0 (pp 883 17 22)) (.cons (.con (.str "neg") 0 (pp 883 24 29)) (.cons (.lst true (.cons (.cal (.glb 111 (pp 883 32 38)) (.cons (.con (.int (0)) 0 (pp 883 39 40)) .nil) (pp 883 32 41)) .nil) (pp 883 31 42)) .nil))) (pp 883 8 43)) (pp 883 8 43))
 .nil)) (.cons (.iff (.cmp .Eq (.sub (.loc 1 (pp 884 9 13)) (.con (.int (0)) 0 (pp 884 14 15)) (pp 884 9 16)) (.con (.str "call") 0 (pp 884 20 26)) (pp 884 9 26)) (.cons (.frr (.loc 3 (pp 885 12 20)) (.raw (kS (sA (kB (sA (kB (sA (kB (sA (bdS (st 118)) 0) 1) 0) 1) 0) 0) 0) 1)) (.cons (.exs (.cal (.glb 118 (pp 886 12 21)) (.cons (.loc 0 (pp 886 22 27)) (.cons (.loc 3 (pp 886 29 37)) (.cons (.loc 2 (pp 886 39 44)) .nil))) (pp 886 12 45)) (pp 886 12 45))
 (.cons (.exs (.cal (.glb 113 (pp 887 12 20)) (.cons (.loc 0 (pp 887 21 26)) (.cons (.con (.str "push") 0 (pp 887 28 34)) (.cons (.lst true (.cons (.cal (.glb 111 (pp 887 37 43)) (.cons (.con (.int (0)) 0 (pp 887 44 45)) .nil) (pp 887 37 46)) .nil) (pp 887 36 47)) .nil))) (pp 887 12 48)) (pp 887 12 48))
 .nil)) ⟨885,8,887,48⟩)
 (.cons (.exs (.cal (.glb 114 (pp 888 8 17)) (.cons (.loc 0 (pp 888 18 23)) (.cons (.con (.str "call") 0 (pp 888 25 31)) (.cons (.con (.int (0)) 0 (pp 888 33 34)) .nil))) (pp 888 8 35)) (pp 888 8 35))
 (.cons (.iff (.un .Not (.sub (.loc 0 (pp 889 15 20)) (.con (.str "tidy") 0 (pp 889 21 27)) (pp 889 15 28)) (pp 889 11 28)) (.cons (.exs (.cal (.glb 113 (pp 890 12 20)) (.cons (.loc 0 (pp 890 21 26)) (.cons (.con (.str "add") 0 (pp 890 28 33)) (.cons (.lst true (.cons (.cal (.glb 111 (pp 890 36 42)) (.cons (.con (.int (4)) 0 (pp 890 43 44)) .nil) (pp 890 36 45)) (.cons (.cal (.glb 75 (pp 890 47 50)) (.cons (.con (.int (16)) 0 (pp 890 51 53)) .nil) (pp 890 47 54)) .nil)) (pp 890 35 55)) .nil))) (pp 890 12 56)) (pp 890 12 56))
 .nil) .nil ⟨889,8,890,56⟩)
 .nil))) (.cons (.iff (.bop .And (.cons (.cmp .In (.sub (.sub (.loc 1 (pp 891 9 13)) (.con (.int (3)) 0 (pp 891 14 15)) (pp 891 9 16)) (.con (.int (0)) 0 (pp 891 17 18)) (pp 891 9 19)) (.tup (.cons (.con (.str "num") 0 (pp 891 24 29)) (.cons (.con (.str "var") 0 (pp 891 31 36)) .nil)) 0 (pp 891 23 37)) (pp 891 9 37)) (.cons (.cmp .Eq (.cal (.glb 100 (pp 891 42 51)) (.cons (.sub (.loc 0 (pp 891 52 57)) (.con (.str "pen") 0 (pp 891 58 63)) (pp 891 52 64)) (.cons (.con (.int (2)) 0 (pp 891 66 67)) .nil)) (pp 891 42 68)) (.con (.int (0)) 0 (pp 891 72 73)) (pp 891 42 73)) .nil)) (pp 891 9 73)) (.cons (.exs (.cal (.glb 118 (pp 892 8 17)) (.cons (.loc 0 (pp 892 18 23)) (.cons (.sub (.loc 1 (pp 892 25 29)) (.con (.int (2)) 0 (pp 892 30 31)) (pp 892 25 32)) (.cons (.loc 2 (pp 892 34 39)) .nil))) (pp 892 8 40)) (pp 892 8 40))
 (.cons (.exs (.cal (.glb 117 (pp 893 8 17)) (.cons (.loc 0 (pp 893 18 23)) (.cons (.sub (.loc 1 (pp 893 25 29)) (.con (.int (1)) 0 (pp 893 30 31)) (pp 893 25 32)) (.cons (.ife (.cmp .Eq (.sub (.sub (.loc 1 (pp 893 53 57)) (.con (.int (3)) 0 (pp 893 58 59)) (pp 893 53 60)) (.con (.int (0)) 0 (pp 893 61 62)) (pp 893 53 63)) (.con (.str "num") 0 (pp 893 67 72)) (pp 893 53 72)) (.cal (.glb 75 (pp 893 34 37)) (.cons (.sub (.sub (.loc 1 (pp 893 38 42)) (.con (.int (3)) 0 (pp 893 43 44)) (pp 893 38 45)) (.con (.int (1)) 0 (pp 893 46 47)) (pp 893 38 48)) .nil) (pp 893 34 49)) (.cal (.glb 112 (pp 893 78 85)) (.cons (.con (.int (5)) 0 (pp 893 86 87)) (.cons (.sub (.loc 2 (pp 893 89 94)) (.sub (.sub (.loc 1 (pp 893 95 99)) (.con (.int (3)) 0 (pp 893 100 101)) (pp 893 95 102)) (.con (.int (1)) 0 (pp 893 103 104)) (pp 893 95 105)) (pp 893 89 106)) .nil)) (pp 893 78 107)) (pp 893 34 107)) .nil))) (pp 893 8 108)) (pp 893 8 108))
 .nil)) (.cons (.exs (.cal (.glb 116 (pp 895 8 17)) (.cons (.loc 0 (pp 895 18 23)) (.cons (.sub (.loc 1 (pp 895 25 29)) (.con (.int (2)) 0 (pp 895 30 31)) (pp 895 25 32)) (.cons (.sub (.loc 1 (pp 895 34 38)) (.con (.int (3)) 0 (pp 895 39 40)) (pp 895 34 41)) (.cons (.loc 2 (pp 895 43 48)) .nil)))) (pp 895 8 49)) (pp 895 8 49))
 (.cons (.exs (.cal (.glb 117 (pp 896 8 17)) (.cons (.loc 0 (pp 896 18 23)) (.cons (.sub (.loc 1 (pp 896 25 29)) (.con (.int (1)) 0 (pp 896 30 31)) (pp 896 25 32)) (.cons (.cal (.glb 111 (pp 896 34 40)) (.cons (.con (.int (1)) 0 (pp 896 41 42)) .nil) (pp 896 34 43)) .nil))) (pp 896 8 44)) (pp 896 8 44))
 .nil)) ⟨891,4,896,44⟩)
 .nil) ⟨884,4,896,44⟩)
 .nil) ⟨881,4,896,44⟩)
 .nil) ⟨879,4,896,44⟩)
 .nil)
theorem F_t118:FnOk (st 118) t118 ["maker","tree","homes","argument"] ["maker","tree","homes"] ["argument"] [113,111,75,112,118,114,100,117,116]:=⟨bind3 (by intros;kernel_rfl),by kernel_rfl,rfl,by kernel_rfl,by kernel_rfl⟩
noncomputable def at118_0:T:=(.loc 1 (pp 885 24 28))
noncomputable def bt118_0:T:=(.con (.int (1)) 0 (pp 885 29 30))
theorem S_t118_0:rawE (kS (sA (kB (sA (kB (sA (kB (sA (bdS (st 118)) 0) 1) 0) 1) 0) 0) 0) 1)=.Subscript (hd (den ["maker","tree","homes","argument"] [] at118_0)) (.Slice (some (hd (den ["maker","tree","homes","argument"] [] bt118_0))) none none (pp 885 29 31)) (pp 885 24 32):=by kernel_rfl
noncomputable def t119:T:=(.cons (.exs (.cal (.glb 116 (pp 898 4 13)) (.cons (.loc 0 (pp 898 14 19)) (.cons (.sub (.loc 1 (pp 898 21 25)) (.con (.int (1)) 0 (pp 898 26 27)) (pp 898 21 28)) (.cons (.sub (.loc 1 (pp 898 30 34)) (.con (.int (2)) 0 (pp 898 35 36)) (pp 898 30 37)) (.cons (.loc 2 (pp 898 39 44)) .nil)))) (pp 898 4 45)) (pp 898 4 45))
 (.cons (.exs (.cal (.glb 113 (pp 899 4 12)) (.cons (.loc 0 (pp 899 13 18)) (.cons (.con (.str "cmp") 0 (pp 899 20 25)) (.cons (.lst true (.cons (.cal (.glb 111 (pp 899 28 34)) (.cons (.con (.int (0)) 0 (pp 899 35 36)) .nil) (pp 899 28 37)) (.cons (.cal (.glb 111 (pp 899 39 45)) (.cons (.con (.int (1)) 0 (pp 899 46 47)) .nil) (pp 899 39 48)) .nil)) (pp 899 27 49)) .nil))) (pp 899 4 50)) (pp 899 4 50))
 (.cons (.asT true (.cons (.loc 4 (pp 900 4 7)) (.cons (.loc 5 (pp 900 9 12)) .nil)) 0 (pp 900 4 12) (.tup (.cons (.cal (.glb 115 (pp 900 16 25)) (.cons (.loc 0 (pp 900 26 31)) .nil) (pp 900 16 32)) (.cons (.cal (.glb 115 (pp 900 34 43)) (.cons (.loc 0 (pp 900 44 49)) .nil) (pp 900 34 50)) .nil)) 0 (pp 900 15 51)) (pp 900 4 51))
 (.cons (.exs (.cal (.glb 114 (pp 901 4 13)) (.cons (.loc 0 (pp 901 14 19)) (.cons (.bin .Add (.con (.str "j") 0 (pp 901 21 24)) (.sub (.loc 1 (pp 901 27 31)) (.con (.int (0)) 0 (pp 901 32 33)) (pp 901 27 34)) (pp 901 21 34)) (.cons (.loc 4 (pp 901 36 39)) .nil))) (pp 901 4 40)) (pp 901 4 40))
 (.cons (.exs (.cal (.sub (.loc 3 (pp 902 4 9)) (.con (.int (1)) 0 (pp 902 10 11)) (pp 902 4 12)) .nil (pp 902 4 14)) (pp 902 4 14))
 (.cons (.exs (.cal (.glb 114 (pp 903 4 13)) (.cons (.loc 0 (pp 903 14 19)) (.cons (.con (.str "jmp") 0 (pp 903 21 26)) (.cons (.loc 5 (pp 903 28 31)) .nil))) (pp 903 4 32)) (pp 903 4 32))
 (.cons (.exs (.cal (.glb 114 (pp 904 4 13)) (.cons (.loc 0 (pp 904 14 19)) (.cons (.con (.str "") 0 (pp 904 21 23)) (.cons (.loc 4 (pp 904 25 28)) .nil))) (pp 904 4 29)) (pp 904 4 29))
 (.cons (.exs (.cal (.sub (.loc 3 (pp 905 4 9)) (.con (.int (0)) 0 (pp 905 10 11)) (pp 905 4 12)) .nil (pp 905 4 14)) (pp 905 4 14))
 (.cons (.exs (.cal (.glb 114 (pp 906 4 13)) (.cons (.loc 0 (pp 906 14 19)) (.cons (.con (.str "") 0 (pp 906 21 23)) (.cons (.loc 5 (pp 906 25 28)) .nil))) (pp 906 4 29)) (pp 906 4 29))
 .nil)))))))))
theorem F_t119:FnOk (st 119) t119 ["maker","test","homes","parts","yes","end"] ["maker","test","homes","parts"] ["yes","end"] [116,113,111,115,114]:=⟨bind4 (by intros;kernel_rfl),by kernel_rfl,rfl,by kernel_rfl,by kernel_rfl⟩
noncomputable def t122:T:=(.cons (.asT false (.cons (.loc 2 (pp 948 4 10)) (.cons (.loc 3 (pp 948 12 17)) (.cons (.loc 4 (pp 948 19 24)) (.cons (.loc 5 (pp 948 26 30)) .nil)))) 0 (pp 948 4 30) (.tup (.cons (.lst false .nil (pp 948 34 36)) (.cons (.raw (kE (kS (sA (bdS (st 122)) 0) 1) 1)) (.cons (.raw (kE (kS (sA (bdS (st 122)) 0) 1) 2)) (.cons (.loc 1 (pp 948 46 51)) .nil)))) 0 (pp 948 33 52)) (pp 948 4 52))
 (.cons (.frr (.tup (.cons (.loc 6 (pp 949 8 14)) (.cons (.loc 7 (pp 949 16 19)) .nil)) 0 (pp 949 8 19)) (.cal (.glb 211 (pp 949 23 32)) (.cons (.loc 0 (pp 949 33 37)) .nil) (pp 949 23 38)) (.cons (.exs (.mtb (.loc 2 (pp 950 8 14)) 2 (pp 950 8 21) (.cons (.loc 5 (pp 950 22 26)) .nil) (pp 950 8 27)) (pp 950 8 27))
 (.cons (.iff (.cmp .Eq (.sub (.loc 7 (pp 951 11 14)) (.con (.int (0)) 0 (pp 951 15 16)) (pp 951 11 17)) (.con (.str "") 0 (pp 951 21 23)) (pp 951 11 23)) (.cons (.asg (.sub (.loc 3 (pp 952 12 17)) (.sub (.loc 7 (pp 952 18 21)) (.con (.int (2)) 0 (pp 952 22 23)) (pp 952 18 24)) (pp 952 12 25)) (.loc 5 (pp 952 28 32)) (pp 952 12 32))
 .nil) (.cons (.asg (.loc 5 (pp 954 12 16)) (.bin .Add (.bin .Add (.loc 5 (pp 954 19 23)) (.con (.int (1)) 0 (pp 954 26 27)) (pp 954 19 27)) (.bin .Mod (.cal (.glb 207 (pp 954 30 33)) (.cons (.loc 6 (pp 954 34 40)) .nil) (pp 954 30 41)) (.con (.int (4)) 0 (pp 954 44 45)) (pp 954 30 45)) (pp 954 19 45)) (pp 954 12 45))
 .nil) ⟨951,8,954,45⟩)
 .nil)) ⟨949,4,954,45⟩)
 (.cons (.frr (.tup (.cons (.loc 6 (pp 955 8 14)) (.cons (.loc 7 (pp 955 16 19)) .nil)) 0 (pp 955 8 19)) (.cal (.glb 211 (pp 955 23 32)) (.cons (.loc 0 (pp 955 33 37)) .nil) (pp 955 23 38)) (.cons (.iff (.cmp .NotEq (.sub (.loc 7 (pp 956 11 14)) (.con (.int (0)) 0 (pp 956 15 16)) (pp 956 11 17)) (.con (.str "") 0 (pp 956 21 23)) (pp 956 11 23)) (.cons (.asg (.loc 8 (pp 957 12 17)) (.bin .Add (.con (.int (1)) 0 (pp 957 20 21)) (.bin .Mod (.cal (.glb 207 (pp 957 24 27)) (.cons (.loc 6 (pp 957 28 34)) .nil) (pp 957 24 35)) (.con (.int (4)) 0 (pp 957 38 39)) (pp 957 24 39)) (pp 957 20 39)) (pp 957 12 39))
 (.cons (.asg (.loc 9 (pp 958 12 20)) (.ife (.cmp .Lt (.sub (.loc 7 (pp 958 33 36)) (.con (.int (2)) 0 (pp 958 37 38)) (pp 958 33 39)) (.con (.int (0)) 0 (pp 958 42 43)) (pp 958 33 43)) (.sub (.loc 7 (pp 958 23 26)) (.con (.int (1)) 0 (pp 958 27 28)) (pp 958 23 29)) (.lst true (.cons (.cal (.glb 76 (pp 958 50 53)) (.cons (.bin .Sub (.bin .Sub (.sub (.loc 3 (pp 958 54 59)) (.sub (.loc 7 (pp 958 60 63)) (.con (.int (2)) 0 (pp 958 64 65)) (pp 958 60 66)) (pp 958 54 67)) (.sub (.loc 2 (pp 958 70 76)) (.loc 6 (pp 958 77 83)) (pp 958 70 84)) (pp 958 54 84)) (.loc 8 (pp 958 87 92)) (pp 958 54 92)) .nil) (pp 958 50 93)) .nil) (pp 958 49 94)) (pp 958 23 94)) (pp 958 12 94))
 (.cons (.asg (.sub (.loc 4 (pp 959 12 17)) (.bin .Mod (.cal (.glb 207 (pp 959 18 21)) (.cons (.sub (.loc 2 (pp 959 22 28)) (.loc 6 (pp 959 29 35)) (pp 959 22 36)) .nil) (pp 959 18 37)) (.bin .Pow (.con (.int (2)) 0 (pp 959 40 41)) (.con (.int (64)) 0 (pp 959 45 47)) (pp 959 40 47)) (pp 959 18 47)) (pp 959 12 48)) (.cal (.glb 58 (pp 959 51 58)) (.cons (.cal (.glb 78 (pp 959 59 70)) (.cons (.sub (.loc 7 (pp 959 71 74)) (.con (.int (0)) 0 (pp 959 75 76)) (pp 959 71 77)) (.cons (.loc 9 (pp 959 79 87)) .nil)) (pp 959 59 88)) (.cons (.loc 8 (pp 959 90 95)) (.cons (.con .none 0 (pp 959 97 101)) (.cons (.con .none 0 (pp 959 103 107)) .nil)))) (pp 959 51 108)) (pp 959 12 108))
 .nil))) .nil ⟨956,8,959,108⟩)
 .nil) ⟨955,4,959,108⟩)
 (.cons (.ret (.loc 4 (pp 960 11 16)) (pp 960 4 16))
 .nil))))
theorem F_t122:FnOk (st 122) t122 ["rows","begin","places","marks","found","here","number","row","width","operands"] ["rows","begin"] ["places","marks","found","here","number","row","width","operands"] [211,207,76,58,78]:=⟨bind2 (by intros;kernel_rfl),by kernel_rfl,rfl,by kernel_rfl,by kernel_rfl⟩
theorem S_t122_0:rawE (kE (kS (sA (bdS (st 122)) 0) 1) 1)=.Dict [] [] (pp 948 38 40):=by kernel_rfl
theorem S_t122_1:rawE (kE (kS (sA (bdS (st 122)) 0) 1) 2)=.Dict [] [] (pp 948 42 44):=by kernel_rfl
noncomputable def t123:T:=(.cons (.iff (.cmp .NotEq (.att (.loc 1 (pp 962 7 18)) 0 (pp 962 7 23)) (.con (.str "imul") 0 (pp 962 27 33)) (pp 962 7 33)) (.cons (.ret (.con (.bool false) 0 (pp 963 15 20)) (pp 963 8 20))
 .nil) .nil ⟨962,4,963,20⟩)
 (.cons (.exs (.cal (.glb 84 (pp 964 4 16)) (.cons (.loc 0 (pp 964 17 22)) (.cons (.loc 1 (pp 964 24 35)) .nil)) (pp 964 4 36)) (pp 964 4 36))
 (.cons (.ret (.con (.bool true) 0 (pp 965 11 15)) (pp 965 4 15))
 .nil)))
theorem F_t123:FnOk (st 123) t123 ["state","instruction"] ["state","instruction"] [] [84]:=⟨bind2 (by intros;kernel_rfl),by kernel_rfl,rfl,by kernel_rfl,by kernel_rfl⟩
noncomputable def t106:T:=(.cons (.asg (.loc 0 (pp 802 4 7)) (.cal (.glb 100 (pp 802 10 19)) (.cons (.cel 0 (pp 802 20 23)) (.cons (.con (.int (4)) 0 (pp 802 25 26)) .nil)) (pp 802 10 27)) (pp 802 4 27))
 (.cons (.iff (.cmp .Lt (.loc 0 (pp 803 7 10)) (.con (.int (2)) 0 (pp 803 13 14)) (pp 803 7 14)) (.cons (.ret (.cal (.glb 105 (pp 804 15 23)) (.cons (.cel 0 (pp 804 24 27)) (.cons (.con (.int (2)) 0 (pp 804 29 30)) .nil)) (pp 804 15 31)) (pp 804 8 31))
 .nil) .nil ⟨803,4,804,31⟩)
 (.cons (.iff (.cmp .Eq (.loc 0 (pp 805 7 10)) (.con (.int (2)) 0 (pp 805 14 15)) (pp 805 7 15)) (.cons (.ret (.tup (.cons (.con (.str "if") 0 (pp 806 16 20)) (.cons (.cal (.glb 104 (pp 806 22 31)) (.cons (.cel 0 (pp 806 32 35)) (.cons (.con (.int (4)) 0 (pp 806 37 38)) .nil)) (pp 806 22 39)) (.cons (.lst true (.cons (.cal (.glb 105 (pp 806 42 50)) (.cons (.cel 0 (pp 806 51 54)) (.cons (.con (.int (2)) 0 (pp 806 56 57)) .nil)) (pp 806 42 58)) .nil) (pp 806 41 59)) (.cons (.raw (kE (kS (sA (kB (sA (bdS (st 106)) 2) 0) 0) 0) 3)) .nil)))) 0 (pp 806 15 117)) (pp 806 8 117))
 .nil) .nil ⟨805,4,806,117⟩)
 (.cons (.ret (.tup (.cons (.con (.str "loop") 0 (pp 807 12 18)) (.cons (.cal (.glb 100 (pp 807 20 29)) (.cons (.cel 0 (pp 807 30 33)) (.cons (.con (.int (3)) 0 (pp 807 35 36)) .nil)) (pp 807 20 37)) (.cons (.lst true (.cons (.cal (.glb 105 (pp 807 40 48)) (.cons (.cel 0 (pp 807 49 52)) (.cons (.con (.int (1)) 0 (pp 807 54 55)) .nil)) (pp 807 40 56)) .nil) (pp 807 39 57)) .nil))) 0 (pp 807 11 58)) (pp 807 4 58))
 .nil))))
theorem F_t106:COk (st 106) t106 ["way"] ["pen"] ["pen"] [100,105,104,206]:=⟨bind1 (by intros;kernel_rfl),by kernel_rfl,by kernel_rfl,by kernel_rfl,by kernel_rfl⟩
noncomputable def et106_0:T:=(.cal (.glb 105 (pp 806 62 70)) (.cons (.cel 0 (pp 806 71 74)) (.cons (.con (.int (1)) 0 (pp 806 76 77)) .nil)) (pp 806 62 78))
noncomputable def gt106_0:T:=(.loc 1 (pp 806 83 87))
noncomputable def ft106_0:T:=.nil
noncomputable def jt106_0:T:=(.cal (.glb 206 (pp 806 91 96)) (.cons (.cal (.glb 100 (pp 806 97 106)) (.cons (.cel 0 (pp 806 107 110)) (.cons (.con (.int (2)) 0 (pp 806 112 113)) .nil)) (pp 806 97 114)) .nil) (pp 806 91 115))
theorem S_t106_0:rawE (kE (kS (sA (kB (sA (bdS (st 106)) 2) 0) 0) 0) 3)=.ListComp (hd (den [".0","turn"] ["pen"] et106_0)) [⟨hd (den [".0","turn"] ["pen"] gt106_0),hd (den ["way"] ["pen"] jt106_0),den [".0","turn"] ["pen"] ft106_0,0⟩] (lcS (kE (kS (sA (kB (sA (bdS (st 106)) 2) 0) 0) 0) 3)) (pp 806 61 116):=by kernel_rfl
theorem L_t106_0 {Q:Bt} {n:Nat} {env:Env} {own:Bool} {gs:List Nat} {a0:Addr}:LcOk ⟨Q,n,env,["way"],["pen"],[a0],own,gs⟩ (scS (st 106)) (lcS (kE (kS (sA (kB (sA (bdS (st 106)) 2) 0) 0) 0) 3)) [".0","turn"] ["pen"] [a0] [105]:=⟨by kernel_rfl,by kernel_rfl,rfl,by kernel_rfl⟩
noncomputable def t109:T:=(.cons (.iff (.cmp .Eq (.sub (.loc 0 (pp 815 7 11)) (.con (.int (0)) 0 (pp 815 12 13)) (pp 815 7 14)) (.con (.str "num") 0 (pp 815 18 23)) (pp 815 7 23)) (.cons (.ret (.bin .Mod (.cal (.glb 207 (pp 816 15 18)) (.cons (.sub (.loc 0 (pp 816 19 23)) (.con (.int (1)) 0 (pp 816 24 25)) (pp 816 19 26)) .nil) (pp 816 15 27)) (.bin .Pow (.con (.int (2)) 0 (pp 816 30 31)) (.con (.int (64)) 0 (pp 816 35 37)) (pp 816 30 37)) (pp 816 15 37)) (pp 816 8 37))
 .nil) .nil ⟨815,4,816,37⟩)
 (.cons (.iff (.cmp .Eq (.sub (.loc 0 (pp 817 7 11)) (.con (.int (0)) 0 (pp 817 12 13)) (pp 817 7 14)) (.con (.str "var") 0 (pp 817 18 23)) (pp 817 7 23)) (.cons (.ret (.sub (.loc 1 (pp 818 15 19)) (.sub (.loc 0 (pp 818 20 24)) (.con (.int (1)) 0 (pp 818 25 26)) (pp 818 20 27)) (pp 818 15 28)) (pp 818 8 28))
 .nil) .nil ⟨817,4,818,28⟩)
 (.cons (.iff (.cmp .Eq (.sub (.loc 0 (pp 819 7 11)) (.con (.int (0)) 0 (pp 819 12 13)) (pp 819 7 14)) (.con (.str "neg") 0 (pp 819 18 23)) (pp 819 7 23)) (.cons (.ret (.bin .Mod (.cal (.glb 207 (pp 820 15 18)) (.cons (.bin .Sub (.con (.int (0)) 0 (pp 820 19 20)) (.cal (.glb 109 (pp 820 23 32)) (.cons (.sub (.loc 0 (pp 820 33 37)) (.con (.int (1)) 0 (pp 820 38 39)) (pp 820 33 40)) (.cons (.loc 1 (pp 820 42 46)) (.cons (.loc 2 (pp 820 48 56)) .nil))) (pp 820 23 57)) (pp 820 19 57)) .nil) (pp 820 15 58)) (.bin .Pow (.con (.int (2)) 0 (pp 820 61 62)) (.con (.int (64)) 0 (pp 820 66 68)) (pp 820 61 68)) (pp 820 15 68)) (pp 820 8 68))
 .nil) .nil ⟨819,4,820,68⟩)
 (.cons (.asT false (.cons (.cel 2 (pp 821 4 7)) (.cons (.cel 1 (pp 821 9 14)) .nil)) 0 (pp 821 4 14) (.tup (.cons (.cal (.glb 109 (pp 821 18 27)) (.cons (.sub (.loc 0 (pp 821 28 32)) (.un .USub (.con (.int (2)) 0 (pp 821 34 35)) (pp 821 33 35)) (pp 821 28 36)) (.cons (.loc 1 (pp 821 38 42)) (.cons (.loc 2 (pp 821 44 52)) .nil))) (pp 821 18 53)) (.cons (.cal (.glb 109 (pp 821 55 64)) (.cons (.sub (.loc 0 (pp 821 65 69)) (.un .USub (.con (.int (1)) 0 (pp 821 71 72)) (pp 821 70 72)) (pp 821 65 73)) (.cons (.loc 1 (pp 821 75 79)) (.cons (.loc 2 (pp 821 81 89)) .nil))) (pp 821 55 90)) .nil)) 0 (pp 821 17 91)) (pp 821 4 91))
 (.cons (.iff (.cmp .Eq (.sub (.loc 0 (pp 822 7 11)) (.con (.int (0)) 0 (pp 822 12 13)) (pp 822 7 14)) (.con (.str "call") 0 (pp 822 18 24)) (pp 822 7 24)) (.cons (.asT false (.cons (.loc 3 (pp 823 8 12)) (.cons (.loc 4 (pp 823 14 17)) (.cons (.loc 5 (pp 823 19 21)) .nil))) 0 (pp 823 8 21) (.loc 2 (pp 823 24 32)) (pp 823 8 32))
 (.cons (.asg (.loc 6 (pp 824 8 13)) (.cal (.glb 108 (pp 824 16 26)) (.cons (.sub (.loc 3 (pp 824 27 31)) (.con (.int (0)) 0 (pp 824 32 33)) (pp 824 27 34)) (.cons (.cal (.glb 109 (pp 824 36 45)) (.cons (.sub (.loc 3 (pp 824 46 50)) (.con (.int (1)) 0 (pp 824 51 52)) (pp 824 46 53)) (.cons (.lst true (.cons (.cel 2 (pp 824 56 59)) (.cons (.cel 1 (pp 824 61 66)) .nil)) (pp 824 55 67)) (.cons (.con .none 0 (pp 824 69 73)) .nil))) (pp 824 36 74)) (.cons (.cal (.glb 109 (pp 824 76 85)) (.cons (.sub (.loc 3 (pp 824 86 90)) (.con (.int (2)) 0 (pp 824 91 92)) (pp 824 86 93)) (.cons (.lst true (.cons (.cel 2 (pp 824 96 99)) (.cons (.cel 1 (pp 824 101 106)) .nil)) (pp 824 95 107)) (.cons (.con .none 0 (pp 824 109 113)) .nil))) (pp 824 76 114)) .nil))) (pp 824 16 115)) (pp 824 8 115))
 (.cons (.ret (.cal (.glb 109 (pp 825 15 24)) (.cons (.ife (.loc 6 (pp 825 32 37)) (.loc 4 (pp 825 25 28)) (.loc 5 (pp 825 43 45)) (pp 825 25 45)) (.cons (.lst true (.cons (.cel 2 (pp 825 48 51)) (.cons (.cel 1 (pp 825 53 58)) .nil)) (pp 825 47 59)) (.cons (.con .none 0 (pp 825 61 65)) .nil))) (pp 825 15 66)) (pp 825 8 66))
 .nil))) .nil ⟨822,4,825,66⟩)
 (.cons (.asg (.loc 7 (pp 826 4 8)) (.sub (.loc 0 (pp 826 11 15)) (.con (.int (1)) 0 (pp 826 16 17)) (pp 826 11 18)) (pp 826 4 18))
 (.cons (.iff (.cmp .Eq (.loc 7 (pp 827 7 11)) (.con (.str "max") 0 (pp 827 15 20)) (pp 827 7 20)) (.cons (.ret (.ife (.cmp .GtE (.cal (.glb 107 (pp 828 22 33)) (.cons (.cel 2 (pp 828 34 37)) .nil) (pp 828 22 38)) (.cal (.glb 107 (pp 828 42 53)) (.cons (.cel 1 (pp 828 54 59)) .nil) (pp 828 42 60)) (pp 828 22 60)) (.cel 2 (pp 828 15 18)) (.cel 1 (pp 828 66 71)) (pp 828 15 71)) (pp 828 8 71))
 .nil) .nil ⟨827,4,828,71⟩)
 (.cons (.iff (.cmp .In (.loc 7 (pp 829 7 11)) (.tup (.cons (.con (.str "and") 0 (pp 829 16 21)) (.cons (.con (.str "or") 0 (pp 829 23 27)) (.cons (.con (.str "xor") 0 (pp 829 29 34)) .nil))) 0 (pp 829 15 35)) (pp 829 7 35)) (.cons (.rws (sA (kB (sA (bdS (st 109)) 7) 0) 0))
 (.cons (.asg (.cel 0 (pp 831 8 14)) (.sub (.raw (kE (kS (sA (kB (sA (bdS (st 109)) 7) 0) 1) 1) 0)) (.loc 7 (pp 831 56 60)) (pp 831 17 61)) (pp 831 8 61))
 (.cons (.ret (.cal (.glb 213 (pp 832 15 18)) (.cons (.raw (kE (kS (sA (kB (sA (bdS (st 109)) 7) 0) 2) 0) 1)) .nil) (pp 832 15 70)) (pp 832 8 70))
 .nil))) .nil ⟨829,4,832,70⟩)
 (.cons (.ret (.bin .Mod (.cal (.glb 207 (pp 833 11 14)) (.cons (.ife (.cmp .Eq (.loc 7 (pp 833 30 34)) (.con (.str "-") 0 (pp 833 38 41)) (pp 833 30 41)) (.bin .Sub (.cel 2 (pp 833 15 18)) (.cel 1 (pp 833 21 26)) (pp 833 15 26)) (.ife (.cmp .Eq (.loc 7 (pp 833 62 66)) (.con (.str "*") 0 (pp 833 70 73)) (pp 833 62 73)) (.bin .Mult (.cel 2 (pp 833 47 50)) (.cel 1 (pp 833 53 58)) (pp 833 47 58)) (.bin .Add (.cel 2 (pp 833 79 82)) (.cel 1 (pp 833 85 90)) (pp 833 79 90)) (pp 833 47 90)) (pp 833 15 90)) .nil) (pp 833 11 91)) (.bin .Pow (.con (.int (2)) 0 (pp 833 94 95)) (.con (.int (64)) 0 (pp 833 99 101)) (pp 833 94 101)) (pp 833 11 101)) (pp 833 4 101))
 .nil)))))))))
theorem F_t109:COk (st 109) t109 ["tree","held","function","test","yes","no","is_so","sign","pairs"] ["tree","held","function"] ["wanted","other","one"] [207,109,108,107,213,206]:=⟨bind3 (by intros;kernel_rfl),by kernel_rfl,by kernel_rfl,by kernel_rfl,by kernel_rfl⟩
noncomputable def et109_0:T:=(.tup (.cons (.bin .Add (.bin .Mod (.cal (.glb 207 (pp 830 18 21)) (.cons (.bin .FloorDiv (.cal (.glb 207 (pp 830 22 25)) (.cons (.cel 1 (pp 830 26 29)) .nil) (pp 830 22 30)) (.bin .Pow (.con (.int (2)) 0 (pp 830 34 35)) (.loc 1 (pp 830 39 41)) (pp 830 34 41)) (pp 830 22 41)) .nil) (pp 830 18 42)) (.con (.int (2)) 0 (pp 830 45 46)) (pp 830 18 46)) (.bin .Mod (.cal (.glb 207 (pp 830 49 52)) (.cons (.bin .FloorDiv (.cal (.glb 207 (pp 830 53 56)) (.cons (.cel 0 (pp 830 57 62)) .nil) (pp 830 53 63)) (.bin .Pow (.con (.int (2)) 0 (pp 830 67 68)) (.loc 1 (pp 830 72 74)) (pp 830 67 74)) (pp 830 53 74)) .nil) (pp 830 49 75)) (.con (.int (2)) 0 (pp 830 78 79)) (pp 830 49 79)) (pp 830 18 79)) (.cons (.bin .Pow (.con (.int (2)) 0 (pp 830 81 82)) (.loc 1 (pp 830 86 88)) (pp 830 81 88)) .nil)) 0 (pp 830 17 89))
noncomputable def gt109_0:T:=(.loc 1 (pp 830 94 96))
noncomputable def ft109_0:T:=.nil
noncomputable def jt109_0:T:=(.cal (.glb 206 (pp 830 100 105)) (.cons (.con (.int (64)) 0 (pp 830 106 108)) .nil) (pp 830 100 109))
theorem S_t109_0:(sA (kB (sA (bdS (st 109)) 7) 0) 0)=.Assign [.Name "pairs" (pp 830 8 13)] (.ListComp (hd (den [".0","at"] ["other","one"] et109_0)) [⟨hd (den [".0","at"] ["other","one"] gt109_0),hd (den ["tree","held","function","test","yes","no","is_so","sign","pairs"] ["wanted","other","one"] jt109_0),den [".0","at"] ["other","one"] ft109_0,0⟩] (lcS (kS (sA (kB (sA (bdS (st 109)) 7) 0) 0) 1)) (pp 830 16 110)) (pp 830 8 110):=by kernel_rfl
theorem L_t109_0 {Q:Bt} {n:Nat} {env:Env} {own:Bool} {gs:List Nat} {a0 a1 a2:Addr}:LcOk ⟨Q,n,env,["tree","held","function","test","yes","no","is_so","sign","pairs"],["wanted","other","one"],[a0,a1,a2],own,gs⟩ (scS (st 109)) (lcS (kS (sA (kB (sA (bdS (st 109)) 7) 0) 0) 1)) [".0","at"] ["other","one"] [a1,a2] [207]:=⟨by kernel_rfl,by kernel_rfl,rfl,by kernel_rfl⟩
noncomputable def vt109_1:T:=(.cons (.lst false (.cons (.con (.int (2)) 0 (pp 831 26 27)) .nil) (pp 831 25 28)) (.cons (.lst false (.cons (.con (.int (1)) 0 (pp 831 37 38)) (.cons (.con (.int (2)) 0 (pp 831 40 41)) .nil)) (pp 831 36 42)) (.cons (.lst false (.cons (.con (.int (1)) 0 (pp 831 52 53)) .nil) (pp 831 51 54)) .nil)))
theorem S_t109_1:rawE (kE (kS (sA (kB (sA (bdS (st 109)) 7) 0) 1) 1) 0)=.Dict (dK [("and",(pp 831 18 23)),("or",(pp 831 30 34)),("xor",(pp 831 44 49))]) (den ["tree","held","function","test","yes","no","is_so","sign","pairs"] ["wanted","other","one"] vt109_1) (pp 831 17 55):=by kernel_rfl
noncomputable def et109_2:T:=(.loc 2 (pp 832 20 25))
noncomputable def gt109_2:T:=(.tup (.cons (.loc 1 (pp 832 30 34)) (.cons (.loc 2 (pp 832 36 41)) .nil)) 0 (pp 832 30 41))
noncomputable def ft109_2:T:=(.cons (.cmp .In (.loc 1 (pp 832 54 58)) (.cel 0 (pp 832 62 68)) (pp 832 54 68)) .nil)
noncomputable def jt109_2:T:=(.loc 8 (pp 832 45 50))
theorem S_t109_2:rawE (kE (kS (sA (kB (sA (bdS (st 109)) 7) 0) 2) 0) 1)=.ListComp (hd (den [".0","many","worth"] ["wanted"] et109_2)) [⟨hd (den [".0","many","worth"] ["wanted"] gt109_2),hd (den ["tree","held","function","test","yes","no","is_so","sign","pairs"] ["wanted","other","one"] jt109_2),den [".0","many","worth"] ["wanted"] ft109_2,0⟩] (lcS (kE (kS (sA (kB (sA (bdS (st 109)) 7) 0) 2) 0) 1)) (pp 832 19 69):=by kernel_rfl
theorem L_t109_2 {Q:Bt} {n:Nat} {env:Env} {own:Bool} {gs:List Nat} {a0 a1 a2:Addr}:LcOk ⟨Q,n,env,["tree","held","function","test","yes","no","is_so","sign","pairs"],["wanted","other","one"],[a0,a1,a2],own,gs⟩ (scS (st 109)) (lcS (kE (kS (sA (kB (sA (bdS (st 109)) 7) 0) 2) 0) 1)) [".0","many","worth"] ["wanted"] [a0] []:=⟨by kernel_rfl,by kernel_rfl,rfl,by kernel_rfl⟩
noncomputable def t120:T:=(.cons (.frr (.loc 1 (pp 908 8 17)) (.loc 0 (pp 908 21 31)) (.cons (.iff (.cmp .Eq (.sub (.loc 1 (pp 909 11 20)) (.con (.int (0)) 0 (pp 909 21 22)) (pp 909 11 23)) (.con (.str "set") 0 (pp 909 27 32)) (pp 909 11 32)) (.cons (.exs (.cal (.glb 118 (pp 910 12 21)) (.cons (.cel 3 (pp 910 22 27)) (.cons (.sub (.loc 1 (pp 910 29 38)) (.con (.int (2)) 0 (pp 910 39 40)) (pp 910 29 41)) (.cons (.cel 2 (pp 910 43 48)) .nil))) (pp 910 12 49)) (pp 910 12 49))
 (.cons (.exs (.cal (.glb 113 (pp 911 12 20)) (.cons (.cel 3 (pp 911 21 26)) (.cons (.con (.str "mov") 0 (pp 911 28 33)) (.cons (.lst true (.cons (.cal (.glb 112 (pp 911 36 43)) (.cons (.con (.int (5)) 0 (pp 911 44 45)) (.cons (.sub (.cel 2 (pp 911 47 52)) (.sub (.loc 1 (pp 911 53 62)) (.con (.int (1)) 0 (pp 911 63 64)) (pp 911 53 65)) (pp 911 47 66)) .nil)) (pp 911 36 67)) (.cons (.cal (.glb 111 (pp 911 69 75)) (.cons (.con (.int (0)) 0 (pp 911 76 77)) .nil) (pp 911 69 78)) .nil)) (pp 911 35 79)) .nil))) (pp 911 12 80)) (pp 911 12 80))
 .nil)) (.cons (.iff (.cmp .Eq (.sub (.loc 1 (pp 912 13 22)) (.con (.int (0)) 0 (pp 912 23 24)) (pp 912 13 25)) (.con (.str "if") 0 (pp 912 29 33)) (pp 912 13 33)) (.cons (.asT false (.cons (.cel 0 (pp 913 12 15)) (.cons (.cel 1 (pp 913 17 19)) .nil)) 0 (pp 913 12 19) (.tup (.cons (.sub (.loc 1 (pp 913 23 32)) (.con (.int (2)) 0 (pp 913 33 34)) (pp 913 23 35)) (.cons (.sub (.loc 1 (pp 913 37 46)) (.con (.int (3)) 0 (pp 913 47 48)) (pp 913 37 49)) .nil)) 0 (pp 913 22 50)) (pp 913 12 50))
 (.cons (.exs (.cal (.glb 119 (pp 914 12 22)) (.cons (.cel 3 (pp 914 23 28)) (.cons (.sub (.loc 1 (pp 914 30 39)) (.con (.int (1)) 0 (pp 914 40 41)) (pp 914 30 42)) (.cons (.cel 2 (pp 914 44 49)) (.cons (.lst true (.cons (.raw (kE (kE (kS (sA (kB (sA (kB (sA (kB (sA (bdS (st 120)) 0) 0) 0) 1) 0) 0) 1) 0) 4) 0)) (.cons (.raw (kE (kE (kS (sA (kB (sA (kB (sA (kB (sA (bdS (st 120)) 0) 0) 0) 1) 0) 0) 1) 0) 4) 1)) .nil)) ⟨914,51,916,37⟩) .nil)))) ⟨914,12,916,38⟩) ⟨914,12,916,38⟩)
 .nil)) (.cons (.asT true (.cons (.loc 2 (pp 918 12 15)) (.cons (.loc 3 (pp 918 17 20)) .nil)) 0 (pp 918 12 20) (.tup (.cons (.cal (.glb 115 (pp 918 24 33)) (.cons (.cel 3 (pp 918 34 39)) .nil) (pp 918 24 40)) (.cons (.cal (.glb 115 (pp 918 42 51)) (.cons (.cel 3 (pp 918 52 57)) .nil) (pp 918 42 58)) .nil)) 0 (pp 918 23 59)) (pp 918 12 59))
 (.cons (.exs (.cal (.glb 113 (pp 919 12 20)) (.cons (.cel 3 (pp 919 21 26)) (.cons (.con (.str "mov") 0 (pp 919 28 33)) (.cons (.lst true (.cons (.cal (.glb 111 (pp 919 36 42)) (.cons (.con (.int (3)) 0 (pp 919 43 44)) .nil) (pp 919 36 45)) (.cons (.cal (.glb 75 (pp 919 47 50)) (.cons (.sub (.loc 1 (pp 919 51 60)) (.con (.int (1)) 0 (pp 919 61 62)) (pp 919 51 63)) .nil) (pp 919 47 64)) .nil)) (pp 919 35 65)) .nil))) (pp 919 12 66)) (pp 919 12 66))
 (.cons (.exs (.cal (.glb 114 (pp 920 12 21)) (.cons (.cel 3 (pp 920 22 27)) (.cons (.con (.str "") 0 (pp 920 29 31)) (.cons (.loc 2 (pp 920 33 36)) .nil))) (pp 920 12 37)) (pp 920 12 37))
 (.cons (.exs (.cal (.glb 113 (pp 921 12 20)) (.cons (.cel 3 (pp 921 21 26)) (.cons (.con (.str "test") 0 (pp 921 28 34)) (.cons (.lst true (.cons (.cal (.glb 111 (pp 921 37 43)) (.cons (.con (.int (3)) 0 (pp 921 44 45)) .nil) (pp 921 37 46)) (.cons (.cal (.glb 111 (pp 921 48 54)) (.cons (.con (.int (3)) 0 (pp 921 55 56)) .nil) (pp 921 48 57)) .nil)) (pp 921 36 58)) .nil))) (pp 921 12 59)) (pp 921 12 59))
 (.cons (.exs (.cal (.glb 114 (pp 922 12 21)) (.cons (.cel 3 (pp 922 22 27)) (.cons (.con (.str "je") 0 (pp 922 29 33)) (.cons (.loc 3 (pp 922 35 38)) .nil))) (pp 922 12 39)) (pp 922 12 39))
 (.cons (.exs (.cal (.glb 120 (pp 923 12 21)) (.cons (.cel 3 (pp 923 22 27)) (.cons (.sub (.loc 1 (pp 923 29 38)) (.con (.int (2)) 0 (pp 923 39 40)) (pp 923 29 41)) (.cons (.cel 2 (pp 923 43 48)) .nil))) (pp 923 12 49)) (pp 923 12 49))
 (.cons (.exs (.cal (.glb 113 (pp 924 12 20)) (.cons (.cel 3 (pp 924 21 26)) (.cons (.con (.str "dec") 0 (pp 924 28 33)) (.cons (.lst true (.cons (.cal (.glb 111 (pp 924 36 42)) (.cons (.con (.int (3)) 0 (pp 924 43 44)) .nil) (pp 924 36 45)) .nil) (pp 924 35 46)) .nil))) (pp 924 12 47)) (pp 924 12 47))
 (.cons (.exs (.cal (.glb 114 (pp 925 12 21)) (.cons (.cel 3 (pp 925 22 27)) (.cons (.con (.str "jmp") 0 (pp 925 29 34)) (.cons (.loc 2 (pp 925 36 39)) .nil))) (pp 925 12 40)) (pp 925 12 40))
 (.cons (.exs (.cal (.glb 114 (pp 926 12 21)) (.cons (.cel 3 (pp 926 22 27)) (.cons (.con (.str "") 0 (pp 926 29 31)) (.cons (.loc 3 (pp 926 33 36)) .nil))) (pp 926 12 37)) (pp 926 12 37))
 .nil))))))))) ⟨912,8,926,37⟩)
 .nil) ⟨909,8,926,37⟩)
 .nil) ⟨908,4,926,37⟩)
 .nil)
theorem F_t120:COk (st 120) t120 ["statements","statement","top","end"] ["maker","statements","homes"] ["yes","no","homes","maker"] [118,113,112,111,119,115,75,114,120]:=⟨bind3 (by intros;kernel_rfl),by kernel_rfl,by kernel_rfl,by kernel_rfl,by kernel_rfl⟩
noncomputable def lt120_0:T:=(.cal (.glb 120 (pp 915 8 17)) (.cons (.cel 1 (pp 915 18 23)) (.cons (.cel 0 (pp 915 25 28)) (.cons (.cel 2 (pp 915 30 35)) .nil))) (pp 915 8 36))
theorem S_t120_0:rawE (kE (kE (kS (sA (kB (sA (kB (sA (kB (sA (bdS (st 120)) 0) 0) 0) 1) 0) 0) 1) 0) 4) 0)=.Lambda (laP (kE (kE (kS (sA (kB (sA (kB (sA (kB (sA (bdS (st 120)) 0) 0) 0) 1) 0) 0) 1) 0) 4) 0)) (laB (kE (kE (kS (sA (kB (sA (kB (sA (kB (sA (bdS (st 120)) 0) 0) 0) 1) 0) 0) 1) 0) 4) 0)) (lcS (kE (kE (kS (sA (kB (sA (kB (sA (kB (sA (bdS (st 120)) 0) 0) 0) 1) 0) 0) 1) 0) 4) 0)) (pp 915 0 36):=by kernel_rfl
theorem B_t120_0:laB (kE (kE (kS (sA (kB (sA (kB (sA (kB (sA (bdS (st 120)) 0) 0) 0) 1) 0) 0) 1) 0) 4) 0)=hd (den [] ["yes","maker","homes"] lt120_0):=by kernel_rfl
theorem L_t120_0:ClOk (laP (kE (kE (kS (sA (kB (sA (kB (sA (kB (sA (bdS (st 120)) 0) 0) 0) 1) 0) 0) 1) 0) 4) 0)) (lcS (kE (kE (kS (sA (kB (sA (kB (sA (kB (sA (bdS (st 120)) 0) 0) 0) 1) 0) 0) 1) 0) 4) 0)) [] [] [] ["yes","maker","homes"] [120]:=⟨bind0 (by intros;kernel_rfl),by kernel_rfl,by kernel_rfl,rfl,by kernel_rfl⟩
noncomputable def lt120_1:T:=(.cal (.glb 120 (pp 916 8 17)) (.cons (.cel 1 (pp 916 18 23)) (.cons (.cel 0 (pp 916 25 27)) (.cons (.cel 2 (pp 916 29 34)) .nil))) (pp 916 8 35))
theorem S_t120_1:rawE (kE (kE (kS (sA (kB (sA (kB (sA (kB (sA (bdS (st 120)) 0) 0) 0) 1) 0) 0) 1) 0) 4) 1)=.Lambda (laP (kE (kE (kS (sA (kB (sA (kB (sA (kB (sA (bdS (st 120)) 0) 0) 0) 1) 0) 0) 1) 0) 4) 1)) (laB (kE (kE (kS (sA (kB (sA (kB (sA (kB (sA (bdS (st 120)) 0) 0) 0) 1) 0) 0) 1) 0) 4) 1)) (lcS (kE (kE (kS (sA (kB (sA (kB (sA (kB (sA (bdS (st 120)) 0) 0) 0) 1) 0) 0) 1) 0) 4) 1)) (pp 916 0 35):=by kernel_rfl
theorem B_t120_1:laB (kE (kE (kS (sA (kB (sA (kB (sA (kB (sA (bdS (st 120)) 0) 0) 0) 1) 0) 0) 1) 0) 4) 1)=hd (den [] ["no","maker","homes"] lt120_1):=by kernel_rfl
theorem L_t120_1:ClOk (laP (kE (kE (kS (sA (kB (sA (kB (sA (kB (sA (bdS (st 120)) 0) 0) 0) 1) 0) 0) 1) 0) 4) 1)) (lcS (kE (kE (kS (sA (kB (sA (kB (sA (kB (sA (bdS (st 120)) 0) 0) 0) 1) 0) 0) 1) 0) 4) 1)) [] [] [] ["no","maker","homes"] [120]:=⟨bind0 (by intros;kernel_rfl),by kernel_rfl,by kernel_rfl,rfl,by kernel_rfl⟩
noncomputable def t121:T:=(.cons (.exs (.cal (.glb 113 (pp 928 4 12)) (.cons (.cel 2 (pp 928 13 18)) (.cons (.con (.str "push") 0 (pp 928 20 26)) (.cons (.lst true (.cons (.cal (.glb 111 (pp 928 29 35)) (.cons (.con (.int (5)) 0 (pp 928 36 37)) .nil) (pp 928 29 38)) .nil) (pp 928 28 39)) .nil))) (pp 928 4 40)) (pp 928 4 40))
 (.cons (.exs (.cal (.glb 113 (pp 929 4 12)) (.cons (.cel 2 (pp 929 13 18)) (.cons (.con (.str "mov") 0 (pp 929 20 25)) (.cons (.lst true (.cons (.cal (.glb 111 (pp 929 28 34)) (.cons (.con (.int (5)) 0 (pp 929 35 36)) .nil) (pp 929 28 37)) (.cons (.cal (.glb 111 (pp 929 39 45)) (.cons (.con (.int (4)) 0 (pp 929 46 47)) .nil) (pp 929 39 48)) .nil)) (pp 929 27 49)) .nil))) (pp 929 4 50)) (pp 929 4 50))
 (.cons (.exs (.cal (.glb 113 (pp 930 4 12)) (.cons (.cel 2 (pp 930 13 18)) (.cons (.ife (.sub (.cel 2 (pp 930 29 34)) (.con (.str "tidy") 0 (pp 930 35 41)) (pp 930 29 42)) (.con (.str "lea") 0 (pp 930 20 25)) (.con (.str "sub") 0 (pp 930 48 53)) (pp 930 20 53)) (.cons (.lst true (.cons (.cal (.glb 111 (pp 930 56 62)) (.cons (.con (.int (4)) 0 (pp 930 63 64)) .nil) (pp 930 56 65)) (.cons (.ife (.sub (.cel 2 (pp 930 86 91)) (.con (.str "tidy") 0 (pp 930 92 98)) (pp 930 86 99)) (.cal (.glb 112 (pp 930 67 74)) (.cons (.con (.int (4)) 0 (pp 930 75 76)) (.cons (.un .USub (.con (.int (32)) 0 (pp 930 79 81)) (pp 930 78 81)) .nil)) (pp 930 67 82)) (.cal (.glb 75 (pp 930 105 108)) (.cons (.con (.int (32)) 0 (pp 930 109 111)) .nil) (pp 930 105 112)) (pp 930 67 112)) .nil)) (pp 930 55 113)) .nil))) (pp 930 4 114)) (pp 930 4 114))
 (.cons (.asg (.loc 3 (pp 931 4 9)) (.lst true (.cons (.un .USub (.con (.int (8)) 0 (pp 931 14 15)) (pp 931 13 15)) (.cons (.un .USub (.con (.int (16)) 0 (pp 931 18 20)) (pp 931 17 20)) (.cons (.un .USub (.con (.int (24)) 0 (pp 931 23 25)) (pp 931 22 25)) (.cons (.un .USub (.con (.int (32)) 0 (pp 931 28 30)) (pp 931 27 30)) .nil)))) (pp 931 12 31)) (pp 931 4 31))
 (.cons (.frr (.tup (.cons (.loc 4 (pp 932 8 12)) (.cons (.loc 5 (pp 932 14 19)) .nil)) 0 (pp 932 8 19)) (.cal (.glb 212 (pp 932 23 26)) (.cons (.loc 3 (pp 932 27 32)) (.cons (.loc 0 (pp 932 34 40)) .nil)) (pp 932 23 41)) (.cons (.exs (.cal (.glb 113 (pp 933 8 16)) (.cons (.cel 2 (pp 933 17 22)) (.cons (.con (.str "mov") 0 (pp 933 24 29)) (.cons (.lst true (.cons (.cal (.glb 111 (pp 933 32 38)) (.cons (.con (.int (0)) 0 (pp 933 39 40)) .nil) (pp 933 32 41)) (.cons (.cal (.glb 75 (pp 933 43 46)) (.cons (.loc 5 (pp 933 47 52)) .nil) (pp 933 43 53)) .nil)) (pp 933 31 54)) .nil))) (pp 933 8 55)) (pp 933 8 55))
 (.cons (.exs (.cal (.glb 113 (pp 934 8 16)) (.cons (.cel 2 (pp 934 17 22)) (.cons (.con (.str "mov") 0 (pp 934 24 29)) (.cons (.lst true (.cons (.cal (.glb 112 (pp 934 32 39)) (.cons (.con (.int (5)) 0 (pp 934 40 41)) (.cons (.loc 4 (pp 934 43 47)) .nil)) (pp 934 32 48)) (.cons (.cal (.glb 111 (pp 934 50 56)) (.cons (.con (.int (0)) 0 (pp 934 57 58)) .nil) (pp 934 50 59)) .nil)) (pp 934 31 60)) .nil))) (pp 934 8 61)) (pp 934 8 61))
 .nil)) ⟨932,4,934,61⟩)
 (.cons (.exs (.cal (.glb 120 (pp 935 4 13)) (.cons (.cel 2 (pp 935 14 19)) (.cons (.loc 1 (pp 935 21 31)) (.cons (.loc 3 (pp 935 33 38)) .nil))) (pp 935 4 39)) (pp 935 4 39))
 (.cons (.exs (.cal (.glb 113 (pp 936 4 12)) (.cons (.cel 2 (pp 936 13 18)) (.cons (.con (.str "leave") 0 (pp 936 20 27)) (.cons (.lst true .nil (pp 936 29 31)) .nil))) (pp 936 4 32)) (pp 936 4 32))
 (.cons (.exs (.cal (.glb 113 (pp 937 4 12)) (.cons (.cel 2 (pp 937 13 18)) (.cons (.con (.str "hlt") 0 (pp 937 20 25)) (.cons (.lst true .nil (pp 937 27 29)) .nil))) (pp 937 4 30)) (pp 937 4 30))
 (.cons (.exs (.cal (.glb 114 (pp 938 4 13)) (.cons (.cel 2 (pp 938 14 19)) (.cons (.con (.str "") 0 (pp 938 21 23)) (.cons (.con (.int (0)) 0 (pp 938 25 26)) .nil))) (pp 938 4 27)) (pp 938 4 27))
 (.cons (.exs (.cal (.glb 113 (pp 939 4 12)) (.cons (.cel 2 (pp 939 13 18)) (.cons (.con (.str "push") 0 (pp 939 20 26)) (.cons (.lst true (.cons (.cal (.glb 111 (pp 939 29 35)) (.cons (.con (.int (5)) 0 (pp 939 36 37)) .nil) (pp 939 29 38)) .nil) (pp 939 28 39)) .nil))) (pp 939 4 40)) (pp 939 4 40))
 (.cons (.exs (.cal (.glb 113 (pp 940 4 12)) (.cons (.cel 2 (pp 940 13 18)) (.cons (.con (.str "mov") 0 (pp 940 20 25)) (.cons (.lst true (.cons (.cal (.glb 111 (pp 940 28 34)) (.cons (.con (.int (5)) 0 (pp 940 35 36)) .nil) (pp 940 28 37)) (.cons (.cal (.glb 111 (pp 940 39 45)) (.cons (.con (.int (4)) 0 (pp 940 46 47)) .nil) (pp 940 39 48)) .nil)) (pp 940 27 49)) .nil))) (pp 940 4 50)) (pp 940 4 50))
 (.cons (.asT false (.cons (.loc 6 (pp 941 4 8)) (.cons (.cel 0 (pp 941 10 13)) (.cons (.cel 1 (pp 941 15 17)) .nil))) 0 (pp 941 4 17) (.loc 2 (pp 941 20 28)) (pp 941 4 28))
 (.cons (.exs (.cal (.glb 119 (pp 942 4 14)) (.cons (.cel 2 (pp 942 15 20)) (.cons (.loc 6 (pp 942 22 26)) (.cons (.lst true (.cons (.con (.int (24)) 0 (pp 942 29 31)) (.cons (.con (.int (16)) 0 (pp 942 33 35)) .nil)) (pp 942 28 36)) (.cons (.lst true (.cons (.raw (kE (kE (kS (sA (bdS (st 121)) 12) 0) 4) 0)) (.cons (.raw (kE (kE (kS (sA (bdS (st 121)) 12) 0) 4) 1)) .nil)) ⟨942,38,944,40⟩) .nil)))) ⟨942,4,944,41⟩) ⟨942,4,944,41⟩)
 (.cons (.exs (.cal (.glb 113 (pp 945 4 12)) (.cons (.cel 2 (pp 945 13 18)) (.cons (.ife (.sub (.cel 2 (pp 945 31 36)) (.con (.str "tidy") 0 (pp 945 37 43)) (pp 945 31 44)) (.con (.str "leave") 0 (pp 945 20 27)) (.con (.str "pop") 0 (pp 945 50 55)) (pp 945 20 55)) (.cons (.ife (.sub (.cel 2 (pp 945 63 68)) (.con (.str "tidy") 0 (pp 945 69 75)) (pp 945 63 76)) (.lst true .nil (pp 945 57 59)) (.lst true (.cons (.cal (.glb 111 (pp 945 83 89)) (.cons (.con (.int (5)) 0 (pp 945 90 91)) .nil) (pp 945 83 92)) .nil) (pp 945 82 93)) (pp 945 57 93)) .nil))) (pp 945 4 94)) (pp 945 4 94))
 (.cons (.exs (.cal (.glb 113 (pp 946 4 12)) (.cons (.cel 2 (pp 946 13 18)) (.cons (.con (.str "ret") 0 (pp 946 20 25)) (.cons (.ife (.sub (.cel 2 (pp 946 40 45)) (.con (.str "tidy") 0 (pp 946 46 52)) (pp 946 40 53)) (.lst true (.cons (.cal (.glb 75 (pp 946 28 31)) (.cons (.con (.int (16)) 0 (pp 946 32 34)) .nil) (pp 946 28 35)) .nil) (pp 946 27 36)) (.lst true .nil (pp 946 59 61)) (pp 946 27 61)) .nil))) (pp 946 4 62)) (pp 946 4 62))
 .nil)))))))))))))))
theorem F_t121:COk (st 121) t121 ["firsts","statements","function","homes","home","worth","test"] ["maker","firsts","statements","function"] ["yes","no","maker"] [113,111,112,75,212,120,114,119]:=⟨bind4 (by intros;kernel_rfl),by kernel_rfl,by kernel_rfl,by kernel_rfl,by kernel_rfl⟩
noncomputable def lt121_0:T:=(.cal (.glb 118 (pp 943 8 17)) (.cons (.cel 1 (pp 943 18 23)) (.cons (.cel 0 (pp 943 25 28)) (.cons (.lst true (.cons (.con (.int (24)) 0 (pp 943 31 33)) (.cons (.con (.int (16)) 0 (pp 943 35 37)) .nil)) (pp 943 30 38)) .nil))) (pp 943 8 39))
theorem S_t121_0:rawE (kE (kE (kS (sA (bdS (st 121)) 12) 0) 4) 0)=.Lambda (laP (kE (kE (kS (sA (bdS (st 121)) 12) 0) 4) 0)) (laB (kE (kE (kS (sA (bdS (st 121)) 12) 0) 4) 0)) (lcS (kE (kE (kS (sA (bdS (st 121)) 12) 0) 4) 0)) (pp 943 0 39):=by kernel_rfl
theorem B_t121_0:laB (kE (kE (kS (sA (bdS (st 121)) 12) 0) 4) 0)=hd (den [] ["yes","maker"] lt121_0):=by kernel_rfl
theorem L_t121_0:ClOk (laP (kE (kE (kS (sA (bdS (st 121)) 12) 0) 4) 0)) (lcS (kE (kE (kS (sA (bdS (st 121)) 12) 0) 4) 0)) [] [] [] ["yes","maker"] [118]:=⟨bind0 (by intros;kernel_rfl),by kernel_rfl,by kernel_rfl,rfl,by kernel_rfl⟩
noncomputable def lt121_1:T:=(.cal (.glb 118 (pp 944 8 17)) (.cons (.cel 1 (pp 944 18 23)) (.cons (.cel 0 (pp 944 25 27)) (.cons (.lst true (.cons (.con (.int (24)) 0 (pp 944 30 32)) (.cons (.con (.int (16)) 0 (pp 944 34 36)) .nil)) (pp 944 29 37)) .nil))) (pp 944 8 38))
theorem S_t121_1:rawE (kE (kE (kS (sA (bdS (st 121)) 12) 0) 4) 1)=.Lambda (laP (kE (kE (kS (sA (bdS (st 121)) 12) 0) 4) 1)) (laB (kE (kE (kS (sA (bdS (st 121)) 12) 0) 4) 1)) (lcS (kE (kE (kS (sA (bdS (st 121)) 12) 0) 4) 1)) (pp 944 0 38):=by kernel_rfl
theorem B_t121_1:laB (kE (kE (kS (sA (bdS (st 121)) 12) 0) 4) 1)=hd (den [] ["no","maker"] lt121_1):=by kernel_rfl
theorem L_t121_1:ClOk (laP (kE (kE (kS (sA (bdS (st 121)) 12) 0) 4) 1)) (lcS (kE (kE (kS (sA (bdS (st 121)) 12) 0) 4) 1)) [] [] [] ["no","maker"] [118]:=⟨bind0 (by intros;kernel_rfl),by kernel_rfl,by kernel_rfl,rfl,by kernel_rfl⟩
noncomputable def t124:T:=(.cons (.asg (.cel 2 (pp 967 4 7)) (.cal (.glb 99 (pp 967 10 18)) (.cons (.loc 0 (pp 967 19 25)) .nil) (pp 967 10 26)) (pp 967 4 26))
 (.cons (.rws (sA (bdS (st 124)) 1))
 (.cons (.asg (.loc 2 (pp 969 4 12)) (.tup (.cons (.cal (.glb 104 (pp 969 16 25)) (.cons (.cel 2 (pp 969 26 29)) (.cons (.con (.int (2)) 0 (pp 969 31 32)) .nil)) (pp 969 16 33)) (.cons (.cal (.glb 103 (pp 969 35 45)) (.cons (.cel 2 (pp 969 46 49)) (.cons (.con (.int (1)) 0 (pp 969 51 52)) (.cons (.con (.int (2)) 0 (pp 969 54 55)) .nil))) (pp 969 35 56)) (.cons (.cal (.glb 103 (pp 969 58 68)) (.cons (.cel 2 (pp 969 69 72)) (.cons (.con (.int (1)) 0 (pp 969 74 75)) (.cons (.con (.int (2)) 0 (pp 969 77 78)) .nil))) (pp 969 58 79)) .nil))) 0 (pp 969 15 80)) (pp 969 4 80))
 (.cons (.rws (sA (bdS (st 124)) 3))
 (.cons (.asT true (.cons (.loc 4 (pp 971 4 9)) (.cons (.loc 5 (pp 971 11 16)) .nil)) 0 (pp 971 4 16) (.tup (.cons (.cal (.glb 101 (pp 971 20 29)) (.cons (.cel 2 (pp 971 30 33)) (.cons (.lst true (.cons (.con (.int (4096)) 0 (pp 971 36 40)) (.cons (.bin .Sub (.bin .Pow (.con (.int (2)) 0 (pp 971 42 43)) (.con (.int (64)) 0 (pp 971 47 49)) (pp 971 42 49)) (.con (.int (60)) 0 (pp 971 52 54)) (pp 971 42 54)) .nil)) (pp 971 35 55)) .nil)) (pp 971 20 56)) (.cons (.cal (.glb 100 (pp 971 58 67)) (.cons (.cel 2 (pp 971 68 71)) (.cons (.bin .Pow (.con (.int (2)) 0 (pp 971 73 74)) (.con (.int (64)) 0 (pp 971 78 80)) (pp 971 73 80)) .nil)) (pp 971 58 81)) .nil)) 0 (pp 971 19 82)) (pp 971 4 82))
 (.cons (.asg (.loc 6 (pp 972 4 9)) (.raw (kS (sA (bdS (st 124)) 5) 1)) (pp 972 4 80))
 (.cons (.exs (.cal (.glb 121 (pp 973 4 17)) (.cons (.loc 6 (pp 973 18 23)) (.cons (.cal (.glb 208 (pp 973 25 29)) (.cons (.loc 3 (pp 973 30 34)) .nil) (pp 973 25 35)) (.cons (.loc 1 (pp 973 37 47)) (.cons (.loc 2 (pp 973 49 57)) .nil)))) (pp 973 4 58)) (pp 973 4 58))
 (.cons (.asT false (.cons (.cel 0 (pp 974 4 11)) (.cons (.cel 1 (pp 974 13 18)) .nil)) 0 (pp 974 4 18) (.tup (.cons (.cal (.glb 122 (pp 974 22 34)) (.cons (.sub (.loc 6 (pp 974 35 40)) (.con (.str "rows") 0 (pp 974 41 47)) (pp 974 35 48)) (.cons (.loc 4 (pp 974 50 55)) .nil)) (pp 974 22 56)) (.cons (.cal (.glb 51 (pp 974 58 63)) (.cons (.con .none 0 (pp 974 64 68)) .nil) (pp 974 58 69)) .nil)) 0 (pp 974 21 70)) (pp 974 4 70))
 (.cons (.asT false (.cons (.sub (.att (.cel 1 (pp 975 4 9)) 13 (pp 975 4 14)) (.con (.int (4)) 0 (pp 975 15 16)) (pp 975 4 17)) (.cons (.sub (.att (.cel 1 (pp 975 19 24)) 13 (pp 975 19 29)) (.con (.int (5)) 0 (pp 975 30 31)) (pp 975 19 32)) (.cons (.att (.cel 1 (pp 975 34 39)) 17 (pp 975 34 43)) .nil))) 0 (pp 975 4 43) (.tup (.cons (.con (.int (32768)) 0 (pp 975 47 52)) (.cons (.loc 5 (pp 975 54 59)) (.cons (.loc 4 (pp 975 61 66)) .nil))) 0 (pp 975 46 67)) (pp 975 4 67))
 (.cons (.exs (.mth (.att (.cel 1 (pp 976 4 9)) 16 (pp 976 4 16)) 49 5 (pp 976 4 21) (.cons (.con (.int (32768)) 0 (pp 976 22 27)) (.cons (.con (.bytes [111,99,116,101,116,109,105,110,116]) 0 (pp 976 29 41)) .nil)) (pp 976 4 42)) (pp 976 4 42))
 (.cons (.rws (sA (bdS (st 124)) 10))
 (.cons (.exs (.cal (.glb 56 (pp 980 4 6)) (.cons (.cel 1 (pp 980 7 12)) (.cons (.con (.int (1000)) 0 (pp 980 14 18)) (.cons (.lst false .nil (pp 980 20 22)) (.cons (.loc 7 (pp 980 24 36)) .nil)))) (pp 980 4 37)) (pp 980 4 37))
 (.cons (.exs (.cal (.glb 110 (pp 981 4 11)) (.cons (.loc 1 (pp 981 12 22)) (.cons (.loc 3 (pp 981 24 28)) (.cons (.loc 2 (pp 981 30 38)) .nil))) (pp 981 4 39)) (pp 981 4 39))
 (.cons (.iff (.bop .Or (.cons (.un .Not (.att (.cel 1 (pp 982 11 16)) 20 (pp 982 11 26)) (pp 982 7 26)) (.cons (.cmp .NotEq (.sub (.att (.cel 1 (pp 982 30 35)) 13 (pp 982 30 40)) (.con (.int (4)) 0 (pp 982 41 42)) (pp 982 30 43)) (.con (.int (32768)) 0 (pp 982 47 52)) (pp 982 30 52)) (.cons (.cmp .NotEq (.sub (.att (.cel 1 (pp 982 56 61)) 13 (pp 982 56 66)) (.con (.int (5)) 0 (pp 982 67 68)) (pp 982 56 69)) (.loc 5 (pp 982 73 78)) (pp 982 56 78)) .nil))) (pp 982 7 78)) (.cons (.ret (.con (.bool false) 0 (pp 983 15 20)) (pp 983 8 20))
 .nil) .nil ⟨982,4,983,20⟩)
 (.cons (.iff (.bop .Or (.cons (.cmp .NotEq (.mth (.att (.cel 1 (pp 984 7 12)) 16 (pp 984 7 19)) 49 6 (pp 984 7 26) (.cons (.con (.int (32768)) 0 (pp 984 27 32)) (.cons (.con (.int (9)) 0 (pp 984 34 35)) .nil)) (pp 984 7 36)) (.con (.bytes [111,99,116,101,116,109,105,110,116]) 0 (pp 984 40 52)) (pp 984 7 52)) (.cons (.cmp .NotEq (.mth (.att (.cel 1 (pp 984 56 61)) 16 (pp 984 56 68)) 49 3 (pp 984 56 73) (.cons (.con (.int (32760)) 0 (pp 984 74 79)) (.cons (.con (.int (8)) 0 (pp 984 81 82)) .nil)) (pp 984 56 83)) (.loc 5 (pp 984 87 92)) (pp 984 56 92)) .nil)) (pp 984 7 92)) (.cons (.ret (.con (.bool false) 0 (pp 985 15 20)) (pp 985 8 20))
 .nil) .nil ⟨984,4,985,20⟩)
 (.cons (.ret (.cmp .Eq (.raw (kE (kS (sA (bdS (st 124)) 15) 0) 0)) (.loc 3 (pp 986 78 82)) (pp 986 11 82)) (pp 986 4 82))
 .nil))))))))))))))))
theorem F_t124:COk (st 124) t124 ["script","statements","function","held","begin","frame","maker","_law_advance"] ["script"] ["program","state","pen"] [99,104,103,101,100,121,208,122,51,56,110,206]:=⟨bind1 (by intros;kernel_rfl),by kernel_rfl,by kernel_rfl,by kernel_rfl,by kernel_rfl⟩
noncomputable def et124_0:T:=(.cal (.glb 106 (pp 968 18 32)) (.cons (.cel 0 (pp 968 33 36)) .nil) (pp 968 18 37))
noncomputable def gt124_0:T:=(.loc 1 (pp 968 42 46))
noncomputable def ft124_0:T:=.nil
noncomputable def jt124_0:T:=(.cal (.glb 206 (pp 968 50 55)) (.cons (.bin .Add (.con (.int (1)) 0 (pp 968 56 57)) (.cal (.glb 100 (pp 968 60 69)) (.cons (.cel 2 (pp 968 70 73)) (.cons (.con (.int (2)) 0 (pp 968 75 76)) .nil)) (pp 968 60 77)) (pp 968 56 77)) .nil) (pp 968 50 78))
theorem S_t124_0:(sA (bdS (st 124)) 1)=.Assign [.Name "statements" (pp 968 4 14)] (.ListComp (hd (den [".0","turn"] ["pen"] et124_0)) [⟨hd (den [".0","turn"] ["pen"] gt124_0),hd (den ["script","statements","function","held","begin","frame","maker","_law_advance"] ["program","state","pen"] jt124_0),den [".0","turn"] ["pen"] ft124_0,0⟩] (lcS (kS (sA (bdS (st 124)) 1) 1)) (pp 968 17 79)) (pp 968 4 79):=by kernel_rfl
theorem L_t124_0 {Q:Bt} {n:Nat} {env:Env} {own:Bool} {gs:List Nat} {a0 a1 a2:Addr}:LcOk ⟨Q,n,env,["script","statements","function","held","begin","frame","maker","_law_advance"],["program","state","pen"],[a0,a1,a2],own,gs⟩ (scS (st 124)) (lcS (kS (sA (bdS (st 124)) 1) 1)) [".0","turn"] ["pen"] [a2] [106]:=⟨by kernel_rfl,by kernel_rfl,rfl,by kernel_rfl⟩
noncomputable def et124_1:T:=(.cal (.glb 101 (pp 970 12 21)) (.cons (.cel 0 (pp 970 22 25)) (.cons (.lst true (.cons (.cal (.glb 100 (pp 970 28 37)) (.cons (.cel 0 (pp 970 38 41)) (.cons (.con (.int (8)) 0 (pp 970 43 44)) .nil)) (pp 970 28 45)) (.cons (.cal (.glb 100 (pp 970 47 56)) (.cons (.cel 0 (pp 970 57 60)) (.cons (.bin .Pow (.con (.int (2)) 0 (pp 970 62 63)) (.con (.int (64)) 0 (pp 970 67 69)) (pp 970 62 69)) .nil)) (pp 970 47 70)) (.cons (.bin .Sub (.bin .Pow (.con (.int (2)) 0 (pp 970 72 73)) (.con (.int (64)) 0 (pp 970 77 79)) (pp 970 72 79)) (.con (.int (1)) 0 (pp 970 82 83)) (pp 970 72 83)) (.cons (.bin .Pow (.con (.int (2)) 0 (pp 970 85 86)) (.con (.int (63)) 0 (pp 970 90 92)) (pp 970 85 92)) .nil)))) (pp 970 27 93)) .nil)) (pp 970 12 94))
noncomputable def gt124_1:T:=(.loc 1 (pp 970 99 103))
noncomputable def ft124_1:T:=.nil
noncomputable def jt124_1:T:=(.cal (.glb 206 (pp 970 107 112)) (.cons (.con (.int (4)) 0 (pp 970 113 114)) .nil) (pp 970 107 115))
theorem S_t124_1:(sA (bdS (st 124)) 3)=.Assign [.Name "held" (pp 970 4 8)] (.ListComp (hd (den [".0","turn"] ["pen"] et124_1)) [⟨hd (den [".0","turn"] ["pen"] gt124_1),hd (den ["script","statements","function","held","begin","frame","maker","_law_advance"] ["program","state","pen"] jt124_1),den [".0","turn"] ["pen"] ft124_1,0⟩] (lcS (kS (sA (bdS (st 124)) 3) 1)) (pp 970 11 116)) (pp 970 4 116):=by kernel_rfl
theorem L_t124_1 {Q:Bt} {n:Nat} {env:Env} {own:Bool} {gs:List Nat} {a0 a1 a2:Addr}:LcOk ⟨Q,n,env,["script","statements","function","held","begin","frame","maker","_law_advance"],["program","state","pen"],[a0,a1,a2],own,gs⟩ (scS (st 124)) (lcS (kS (sA (bdS (st 124)) 3) 1)) [".0","turn"] ["pen"] [a2] [101,100]:=⟨by kernel_rfl,by kernel_rfl,rfl,by kernel_rfl⟩
noncomputable def vt124_2:T:=(.cons (.cel 2 (pp 972 20 23)) (.cons (.lst false .nil (pp 972 33 35)) (.cons (.con (.int (0)) 0 (pp 972 46 47)) (.cons (.cmp .Eq (.cal (.glb 100 (pp 972 57 66)) (.cons (.cel 2 (pp 972 67 70)) (.cons (.con (.int (2)) 0 (pp 972 72 73)) .nil)) (pp 972 57 74)) (.con (.int (1)) 0 (pp 972 78 79)) (pp 972 57 79)) .nil))))
theorem S_t124_2:rawE (kS (sA (bdS (st 124)) 5) 1)=.Dict (dK [("pen",(pp 972 13 18)),("rows",(pp 972 25 31)),("marks",(pp 972 37 44)),("tidy",(pp 972 49 55))]) (den ["script","statements","function","held","begin","frame","maker","_law_advance"] ["program","state","pen"] vt124_2) (pp 972 12 80):=by kernel_rfl
noncomputable def dt124_3:T:=(.cons (.ret (.cal (.glb 55 (pp 979 15 23)) (.cons (.loc 0 (pp 979 24 28)) (.cons (.cel 0 (pp 979 30 37)) (.cons (.lst true (.cons (.glb 90 (pp 979 40 49)) (.cons (.glb 71 (pp 979 51 61)) (.cons (.glb 93 (pp 979 63 73)) (.cons (.glb 97 (pp 979 75 84)) (.cons (.glb 123 (pp 979 86 99)) .nil))))) (pp 979 39 100)) .nil))) (pp 979 15 101)) (pp 979 8 101))
 .nil)
theorem S_t124_3:(sA (bdS (st 124)) 10)=.FunctionDef "_law_advance" (prS (sA (bdS (st 124)) 10)) (bdS (sA (bdS (st 124)) 10)) [] none [] (scS (sA (bdS (st 124)) 10)) none "_law_advance" ⟨978,4,979,101⟩:=by kernel_rfl
theorem B_t124_3:bdS (sA (bdS (st 124)) 10)=dnS ["some"] ["program"] dt124_3:=by kernel_rfl
theorem L_t124_3:ClOk (prS (sA (bdS (st 124)) 10)) (scS (sA (bdS (st 124)) 10)) ["some"] ["some"] [] ["program"] [55,90,71,93,97,123]:=⟨bind1 (by intros;kernel_rfl),by kernel_rfl,by kernel_rfl,rfl,by kernel_rfl⟩
noncomputable def et124_4:T:=(.mth (.att (.cel 0 (pp 986 12 17)) 16 (pp 986 12 24)) 49 3 (pp 986 12 29) (.cons (.bin .Sub (.con (.int (32760)) 0 (pp 986 30 35)) (.bin .Mult (.con (.int (8)) 0 (pp 986 38 39)) (.bin .Add (.loc 1 (pp 986 43 45)) (.con (.int (1)) 0 (pp 986 48 49)) (pp 986 43 49)) (pp 986 38 50)) (pp 986 30 50)) (.cons (.con (.int (8)) 0 (pp 986 52 53)) .nil)) (pp 986 12 54))
noncomputable def gt124_4:T:=(.loc 1 (pp 986 59 61))
noncomputable def ft124_4:T:=.nil
noncomputable def jt124_4:T:=(.cal (.glb 206 (pp 986 65 70)) (.cons (.con (.int (4)) 0 (pp 986 71 72)) .nil) (pp 986 65 73))
theorem S_t124_4:rawE (kE (kS (sA (bdS (st 124)) 15) 0) 0)=.ListComp (hd (den [".0","at"] ["state"] et124_4)) [⟨hd (den [".0","at"] ["state"] gt124_4),hd (den ["script","statements","function","held","begin","frame","maker","_law_advance"] ["program","state","pen"] jt124_4),den [".0","at"] ["state"] ft124_4,0⟩] (lcS (kE (kS (sA (bdS (st 124)) 15) 0) 0)) (pp 986 11 74):=by kernel_rfl
theorem L_t124_4 {Q:Bt} {n:Nat} {env:Env} {own:Bool} {gs:List Nat} {a0 a1 a2:Addr}:LcOk ⟨Q,n,env,["script","statements","function","held","begin","frame","maker","_law_advance"],["program","state","pen"],[a0,a1,a2],own,gs⟩ (scS (st 124)) (lcS (kE (kS (sA (bdS (st 124)) 15) 0) 0)) [".0","at"] ["state"] [a1] []:=⟨by kernel_rfl,by kernel_rfl,rfl,by kernel_rfl⟩
noncomputable def m49_1:T:=(.cons (.ret (.mtb (.att (.loc 0 (pp 239 15 19)) 11 (pp 239 15 24)) 4 (pp 239 15 28) (.cons (.cal (.glb 6 (pp 239 29 33)) (.cons (.loc 1 (pp 239 34 39)) (.cons (.con (.int (64)) 0 (pp 239 41 43)) .nil)) (pp 239 29 44)) (.cons (.con (.int (0)) 0 (pp 239 46 47)) .nil)) (pp 239 15 48)) (pp 239 8 48))
 .nil)
theorem F_m49_1:FnOk (mth 49 1) m49_1 ["self","place"] ["self","place"] [] [6]:=⟨bind2 (by intros;kernel_rfl),by kernel_rfl,rfl,by kernel_rfl,by kernel_rfl⟩
noncomputable def m49_2:T:=(.cons (.asg (.sub (.att (.loc 0 (pp 242 8 12)) 11 (pp 242 8 17)) (.cal (.glb 6 (pp 242 18 22)) (.cons (.loc 1 (pp 242 23 28)) (.cons (.con (.int (64)) 0 (pp 242 30 32)) .nil)) (pp 242 18 33)) (pp 242 8 34)) (.loc 2 (pp 242 37 42)) (pp 242 8 42))
 .nil)
theorem F_m49_2:FnOk (mth 49 2) m49_2 ["self","place","octet"] ["self","place","octet"] [] [6]:=⟨bind3 (by intros;kernel_rfl),by kernel_rfl,rfl,by kernel_rfl,by kernel_rfl⟩
noncomputable def m49_3:T:=(.cons (.asg (.loc 3 (pp 245 8 13)) (.con (.int (0)) 0 (pp 245 16 17)) (pp 245 8 17))
 (.cons (.frr (.loc 4 (pp 246 12 14)) (.cal (.glb 206 (pp 246 18 23)) (.cons (.loc 2 (pp 246 24 29)) .nil) (pp 246 18 30)) (.cons (.asg (.loc 3 (pp 247 12 17)) (.bin .Add (.loc 3 (pp 247 20 25)) (.bin .LShift (.mth (.loc 0 (pp 247 29 33)) 49 1 (pp 247 29 39) (.cons (.bin .Add (.loc 1 (pp 247 40 45)) (.loc 4 (pp 247 48 50)) (pp 247 40 50)) .nil) (pp 247 29 51)) (.bin .Mult (.con (.int (8)) 0 (pp 247 55 56)) (.loc 4 (pp 247 59 61)) (pp 247 55 61)) (pp 247 29 61)) (pp 247 20 62)) (pp 247 12 62))
 .nil) ⟨246,8,247,62⟩)
 (.cons (.ret (.loc 3 (pp 248 15 20)) (pp 248 8 20))
 .nil)))
theorem F_m49_3:FnOk (mth 49 3) m49_3 ["self","place","width","worth","at"] ["self","place","width"] ["worth","at"] [206]:=⟨bind3 (by intros;kernel_rfl),by kernel_rfl,rfl,by kernel_rfl,by kernel_rfl⟩
noncomputable def m49_4:T:=(.cons (.frr (.loc 4 (pp 251 12 14)) (.cal (.glb 206 (pp 251 18 23)) (.cons (.loc 2 (pp 251 24 29)) .nil) (pp 251 18 30)) (.cons (.exs (.mth (.loc 0 (pp 252 12 16)) 49 2 (pp 252 12 26) (.cons (.bin .Add (.loc 1 (pp 252 27 32)) (.loc 4 (pp 252 35 37)) (pp 252 27 37)) (.cons (.bin .BitAnd (.bin .RShift (.loc 3 (pp 252 39 44)) (.bin .Mult (.con (.int (8)) 0 (pp 252 48 49)) (.loc 4 (pp 252 52 54)) (pp 252 48 54)) (pp 252 39 54)) (.con (.int (255)) 0 (pp 252 57 60)) (pp 252 39 60)) .nil)) (pp 252 12 61)) (pp 252 12 61))
 .nil) ⟨251,8,252,61⟩)
 .nil)
theorem F_m49_4:FnOk (mth 49 4) m49_4 ["self","place","width","worth","at"] ["self","place","width","worth"] ["at"] [206]:=⟨bind4 (by intros;kernel_rfl),by kernel_rfl,rfl,by kernel_rfl,by kernel_rfl⟩
noncomputable def m49_5:T:=(.cons (.frr (.tup (.cons (.loc 3 (pp 255 12 14)) (.cons (.loc 4 (pp 255 16 21)) .nil)) 0 (pp 255 12 21)) (.cal (.glb 211 (pp 255 25 34)) (.cons (.loc 2 (pp 255 35 41)) .nil) (pp 255 25 42)) (.cons (.exs (.mth (.loc 0 (pp 256 12 16)) 49 2 (pp 256 12 26) (.cons (.bin .Add (.loc 1 (pp 256 27 32)) (.loc 3 (pp 256 35 37)) (pp 256 27 37)) (.cons (.loc 4 (pp 256 39 44)) .nil)) (pp 256 12 45)) (pp 256 12 45))
 .nil) ⟨255,8,256,45⟩)
 .nil)
theorem F_m49_5:FnOk (mth 49 5) m49_5 ["self","place","octets","at","octet"] ["self","place","octets"] ["at","octet"] [211]:=⟨bind3 (by intros;kernel_rfl),by kernel_rfl,rfl,by kernel_rfl,by kernel_rfl⟩
noncomputable def m51_1:T:=(.cons (.iff (.cmp .Eq (.att (.loc 1 (pp 293 11 19)) 1 (pp 293 11 24)) (.con (.str "gpr") 0 (pp 293 28 33)) (pp 293 11 33)) (.cons (.ret (.cal (.glb 6 (pp 294 19 23)) (.cons (.sub (.att (.loc 0 (pp 294 24 28)) 13 (pp 294 24 33)) (.att (.loc 1 (pp 294 34 42)) 2 (pp 294 34 49)) (pp 294 24 50)) (.cons (.att (.loc 1 (pp 294 52 60)) 3 (pp 294 52 65)) .nil)) (pp 294 19 66)) (pp 294 12 66))
 .nil) .nil ⟨293,8,294,66⟩)
 (.cons (.iff (.cmp .Eq (.att (.loc 1 (pp 295 11 19)) 1 (pp 295 11 24)) (.con (.str "high") 0 (pp 295 28 34)) (pp 295 11 34)) (.cons (.ret (.cal (.glb 6 (pp 296 19 23)) (.cons (.bin .RShift (.sub (.att (.loc 0 (pp 296 24 28)) 13 (pp 296 24 33)) (.bin .Sub (.att (.loc 1 (pp 296 34 42)) 2 (pp 296 34 49)) (.con (.int (4)) 0 (pp 296 52 53)) (pp 296 34 53)) (pp 296 24 54)) (.con (.int (8)) 0 (pp 296 58 59)) (pp 296 24 59)) (.cons (.con (.int (8)) 0 (pp 296 61 62)) .nil)) (pp 296 19 63)) (pp 296 12 63))
 .nil) .nil ⟨295,8,296,63⟩)
 (.cons (.iff (.cmp .Eq (.att (.loc 1 (pp 297 11 19)) 1 (pp 297 11 24)) (.con (.str "xmm") 0 (pp 297 28 33)) (pp 297 11 33)) (.cons (.ret (.sub (.att (.loc 0 (pp 298 19 23)) 14 (pp 298 19 27)) (.att (.loc 1 (pp 298 28 36)) 2 (pp 298 28 43)) (pp 298 19 44)) (pp 298 12 44))
 .nil) .nil ⟨297,8,298,44⟩)
 (.cons (.iff (.cmp .Eq (.att (.loc 1 (pp 299 11 19)) 1 (pp 299 11 24)) (.con (.str "rip") 0 (pp 299 28 33)) (pp 299 11 33)) (.cons (.ret (.att (.loc 0 (pp 300 19 23)) 17 (pp 300 19 27)) (pp 300 12 27))
 .nil) .nil ⟨299,8,300,27⟩)
 (.cons (.rws (sA (bdS (mth 51 1)) 4))
 .nil)))))
theorem F_m51_1:FnOk (mth 51 1) m51_1 ["self","register"] ["self","register"] [] [6]:=⟨bind2 (by intros;kernel_rfl),by kernel_rfl,rfl,by kernel_rfl,by kernel_rfl⟩
noncomputable def m51_2:T:=(.cons (.asg (.loc 2 (pp 304 8 13)) (.cal (.glb 6 (pp 304 16 20)) (.cons (.loc 2 (pp 304 21 26)) (.cons (.att (.loc 1 (pp 304 28 36)) 3 (pp 304 28 41)) .nil)) (pp 304 16 42)) (pp 304 8 42))
 (.cons (.iff (.cmp .Eq (.att (.loc 1 (pp 305 11 19)) 1 (pp 305 11 24)) (.con (.str "gpr") 0 (pp 305 28 33)) (pp 305 11 33)) (.cons (.asg (.sub (.att (.loc 0 (pp 306 12 16)) 13 (pp 306 12 21)) (.att (.loc 1 (pp 306 22 30)) 2 (pp 306 22 37)) (pp 306 12 38)) (.cal (.glb 50 (pp 306 41 47)) (.cons (.sub (.att (.loc 0 (pp 306 48 52)) 13 (pp 306 48 57)) (.att (.loc 1 (pp 306 58 66)) 2 (pp 306 58 73)) (pp 306 48 74)) (.cons (.loc 2 (pp 306 76 81)) (.cons (.att (.loc 1 (pp 306 83 91)) 3 (pp 306 83 96)) .nil))) (pp 306 41 97)) (pp 306 12 97))
 .nil) (.cons (.iff (.cmp .Eq (.att (.loc 1 (pp 307 13 21)) 1 (pp 307 13 26)) (.con (.str "high") 0 (pp 307 30 36)) (pp 307 13 36)) (.cons (.asg (.loc 3 (pp 308 12 15)) (.sub (.att (.loc 0 (pp 308 18 22)) 13 (pp 308 18 27)) (.bin .Sub (.att (.loc 1 (pp 308 28 36)) 2 (pp 308 28 43)) (.con (.int (4)) 0 (pp 308 46 47)) (pp 308 28 47)) (pp 308 18 48)) (pp 308 12 48))
 (.cons (.asg (.sub (.att (.loc 0 (pp 309 12 16)) 13 (pp 309 12 21)) (.bin .Sub (.att (.loc 1 (pp 309 22 30)) 2 (pp 309 22 37)) (.con (.int (4)) 0 (pp 309 40 41)) (pp 309 22 41)) (pp 309 12 42)) (.bin .Add (.loc 3 (pp 309 45 48)) (.bin .LShift (.bin .Sub (.loc 2 (pp 309 52 57)) (.cal (.glb 6 (pp 309 60 64)) (.cons (.bin .RShift (.loc 3 (pp 309 65 68)) (.con (.int (8)) 0 (pp 309 72 73)) (pp 309 65 73)) (.cons (.con (.int (8)) 0 (pp 309 75 76)) .nil)) (pp 309 60 77)) (pp 309 52 77)) (.con (.int (8)) 0 (pp 309 81 82)) (pp 309 52 82)) (pp 309 45 83)) (pp 309 12 83))
 .nil)) (.cons (.iff (.cmp .Eq (.att (.loc 1 (pp 310 13 21)) 1 (pp 310 13 26)) (.con (.str "xmm") 0 (pp 310 30 35)) (pp 310 13 35)) (.cons (.asg (.sub (.att (.loc 0 (pp 311 12 16)) 14 (pp 311 12 20)) (.att (.loc 1 (pp 311 21 29)) 2 (pp 311 21 36)) (pp 311 12 37)) (.loc 2 (pp 311 40 45)) (pp 311 12 45))
 .nil) (.cons (.rws (sA (kB (sA (kB (sA (kB (sA (bdS (mth 51 2)) 1) 1) 0) 1) 0) 1) 0))
 .nil) ⟨310,8,313,42⟩)
 .nil) ⟨307,8,313,42⟩)
 .nil) ⟨305,8,313,42⟩)
 .nil))
theorem F_m51_2:FnOk (mth 51 2) m51_2 ["self","register","worth","old"] ["self","register","worth"] ["old"] [6,50]:=⟨bind3 (by intros;kernel_rfl),by kernel_rfl,rfl,by kernel_rfl,by kernel_rfl⟩
noncomputable def m51_3:T:=(.cons (.iff (.bop .And (.cons (.cmp .Eq (.att (.loc 1 (pp 316 11 19)) 1 (pp 316 11 24)) (.con (.str "xmm") 0 (pp 316 28 33)) (pp 316 11 33)) (.cons (.cmp .Lt (.loc 2 (pp 316 38 42)) (.con (.int (128)) 0 (pp 316 45 48)) (pp 316 38 48)) .nil)) (pp 316 11 48)) (.cons (.asg (.loc 4 (pp 317 12 15)) (.sub (.att (.loc 0 (pp 317 18 22)) 14 (pp 317 18 26)) (.att (.loc 1 (pp 317 27 35)) 2 (pp 317 27 42)) (pp 317 18 43)) (pp 317 12 43))
 (.cons (.asg (.sub (.att (.loc 0 (pp 318 12 16)) 14 (pp 318 12 20)) (.att (.loc 1 (pp 318 21 29)) 2 (pp 318 21 36)) (pp 318 12 37)) (.bin .Add (.bin .Sub (.loc 4 (pp 318 40 43)) (.cal (.glb 6 (pp 318 46 50)) (.cons (.loc 4 (pp 318 51 54)) (.cons (.loc 2 (pp 318 56 60)) .nil)) (pp 318 46 61)) (pp 318 40 61)) (.cal (.glb 6 (pp 318 64 68)) (.cons (.loc 3 (pp 318 69 74)) (.cons (.loc 2 (pp 318 76 80)) .nil)) (pp 318 64 81)) (pp 318 40 81)) (pp 318 12 81))
 .nil)) (.cons (.exs (.mth (.loc 0 (pp 320 12 16)) 51 2 (pp 320 12 20) (.cons (.loc 1 (pp 320 21 29)) (.cons (.loc 3 (pp 320 31 36)) .nil)) (pp 320 12 37)) (pp 320 12 37))
 .nil) ⟨316,8,320,37⟩)
 .nil)
theorem F_m51_3:FnOk (mth 51 3) m51_3 ["self","register","size","worth","old"] ["self","register","size","worth"] ["old"] [6]:=⟨bind4 (by intros;kernel_rfl),by kernel_rfl,rfl,by kernel_rfl,by kernel_rfl⟩
noncomputable def m51_5:T:=(.cons (.asg (.loc 2 (pp 326 8 13)) (.att (.loc 1 (pp 326 16 19)) 26 (pp 326 16 25)) (pp 326 8 25))
 (.cons (.iff (.cmp .IsNot (.att (.loc 1 (pp 327 11 14)) 27 (pp 327 11 19)) (.con .none 0 (pp 327 27 31)) (pp 327 11 31)) (.cons (.asg (.loc 2 (pp 328 12 17)) (.bin .Add (.loc 2 (pp 328 20 25)) (.mth (.loc 0 (pp 328 28 32)) 51 1 (pp 328 28 36) (.cons (.att (.loc 1 (pp 328 37 40)) 27 (pp 328 37 45)) .nil) (pp 328 28 46)) (pp 328 20 46)) (pp 328 12 46))
 .nil) .nil ⟨327,8,328,46⟩)
 (.cons (.iff (.cmp .IsNot (.att (.loc 1 (pp 329 11 14)) 28 (pp 329 11 20)) (.con .none 0 (pp 329 28 32)) (pp 329 11 32)) (.cons (.asg (.loc 2 (pp 330 12 17)) (.bin .Add (.loc 2 (pp 330 20 25)) (.bin .Mult (.mth (.loc 0 (pp 330 28 32)) 51 1 (pp 330 28 36) (.cons (.att (.loc 1 (pp 330 37 40)) 28 (pp 330 37 46)) .nil) (pp 330 28 47)) (.att (.loc 1 (pp 330 50 53)) 29 (pp 330 50 59)) (pp 330 28 59)) (pp 330 20 59)) (pp 330 12 59))
 .nil) .nil ⟨329,8,330,59⟩)
 (.cons (.ret (.cal (.glb 6 (pp 331 15 19)) (.cons (.loc 2 (pp 331 20 25)) (.cons (.con (.int (64)) 0 (pp 331 27 29)) .nil)) (pp 331 15 30)) (pp 331 8 30))
 .nil))))
theorem F_m51_5:FnOk (mth 51 5) m51_5 ["self","mem","total"] ["self","mem"] ["total"] [6]:=⟨bind2 (by intros;kernel_rfl),by kernel_rfl,rfl,by kernel_rfl,by kernel_rfl⟩
noncomputable def m51_6:T:=(.cons (.asg (.loc 2 (pp 334 8 12)) (.ife (.cmp .Eq (.att (.loc 1 (pp 334 20 23)) 30 (pp 334 20 31)) (.con (.str "") 0 (pp 334 35 37)) (pp 334 20 37)) (.con (.int (0)) 0 (pp 334 15 16)) (.sub (.att (.loc 0 (pp 334 43 47)) 19 (pp 334 43 56)) (.att (.loc 1 (pp 334 57 60)) 30 (pp 334 57 68)) (pp 334 43 69)) (pp 334 15 69)) (pp 334 8 69))
 (.cons (.ret (.cal (.glb 6 (pp 335 15 19)) (.cons (.bin .Add (.mth (.loc 0 (pp 335 20 24)) 51 5 (pp 335 20 31) (.cons (.loc 1 (pp 335 32 35)) .nil) (pp 335 20 36)) (.loc 2 (pp 335 39 43)) (pp 335 20 43)) (.cons (.con (.int (64)) 0 (pp 335 45 47)) .nil)) (pp 335 15 48)) (pp 335 8 48))
 .nil))
theorem F_m51_6:FnOk (mth 51 6) m51_6 ["self","mem","base"] ["self","mem"] ["base"] [6]:=⟨bind2 (by intros;kernel_rfl),by kernel_rfl,rfl,by kernel_rfl,by kernel_rfl⟩
noncomputable def m51_7:T:=(.cons (.frr (.loc 3 (pp 338 12 15)) (.bin .Add (.lst false (.cons (.loc 1 (pp 338 20 27)) .nil) (pp 338 19 28)) (.cal (.glb 208 (pp 338 31 35)) (.cons (.att (.loc 2 (pp 338 36 47)) 31 (pp 338 36 56)) .nil) (pp 338 31 57)) (pp 338 19 57)) (.cons (.iff (.cmp .Eq (.att (.loc 3 (pp 339 15 18)) 1 (pp 339 15 23)) (.con (.str "reg") 0 (pp 339 27 32)) (pp 339 15 32)) (.cons (.ret (.att (.att (.loc 3 (pp 340 23 26)) 25 (pp 340 23 35)) 3 (pp 340 23 40)) (pp 340 16 40))
 .nil) .nil ⟨339,12,340,40⟩)
 (.cons (.iff (.bop .And (.cons (.cmp .Eq (.att (.loc 3 (pp 341 15 18)) 1 (pp 341 15 23)) (.con (.str "mem") 0 (pp 341 27 32)) (pp 341 15 32)) (.cons (.cmp .Gt (.att (.loc 3 (pp 341 37 40)) 3 (pp 341 37 45)) (.con (.int (0)) 0 (pp 341 48 49)) (pp 341 37 49)) .nil)) (pp 341 15 49)) (.cons (.ret (.att (.loc 3 (pp 342 23 26)) 3 (pp 342 23 31)) (pp 342 16 31))
 .nil) .nil ⟨341,12,342,31⟩)
 .nil)) ⟨338,8,342,31⟩)
 (.cons (.ret (.con (.int (64)) 0 (pp 343 15 17)) (pp 343 8 17))
 .nil))
theorem F_m51_7:FnOk (mth 51 7) m51_7 ["self","operand","instruction","one"] ["self","operand","instruction"] ["one"] [208]:=⟨bind3 (by intros;kernel_rfl),by kernel_rfl,rfl,by kernel_rfl,by kernel_rfl⟩
noncomputable def m51_8:T:=(.cons (.iff (.cmp .Eq (.att (.loc 1 (pp 346 11 18)) 1 (pp 346 11 23)) (.con (.str "reg") 0 (pp 346 27 32)) (pp 346 11 32)) (.cons (.ret (.cal (.glb 6 (pp 347 19 23)) (.cons (.mth (.loc 0 (pp 347 24 28)) 51 1 (pp 347 24 32) (.cons (.att (.loc 1 (pp 347 33 40)) 25 (pp 347 33 49)) .nil) (pp 347 24 50)) (.cons (.loc 2 (pp 347 52 56)) .nil)) (pp 347 19 57)) (pp 347 12 57))
 .nil) .nil ⟨346,8,347,57⟩)
 (.cons (.iff (.cmp .Eq (.att (.loc 1 (pp 348 11 18)) 1 (pp 348 11 23)) (.con (.str "mem") 0 (pp 348 27 32)) (pp 348 11 32)) (.cons (.ret (.mth (.att (.loc 0 (pp 349 19 23)) 16 (pp 349 19 30)) 49 3 (pp 349 19 35) (.cons (.mth (.loc 0 (pp 349 36 40)) 51 6 (pp 349 36 46) (.cons (.loc 1 (pp 349 47 54)) .nil) (pp 349 36 55)) (.cons (.bin .FloorDiv (.loc 2 (pp 349 57 61)) (.con (.int (8)) 0 (pp 349 65 66)) (pp 349 57 66)) .nil)) (pp 349 19 67)) (pp 349 12 67))
 .nil) .nil ⟨348,8,349,67⟩)
 (.cons (.ret (.cal (.glb 6 (pp 350 15 19)) (.cons (.att (.loc 1 (pp 350 20 27)) 26 (pp 350 20 33)) (.cons (.loc 2 (pp 350 35 39)) .nil)) (pp 350 15 40)) (pp 350 8 40))
 .nil)))
theorem F_m51_8:FnOk (mth 51 8) m51_8 ["self","operand","size"] ["self","operand","size"] [] [6]:=⟨bind3 (by intros;kernel_rfl),by kernel_rfl,rfl,by kernel_rfl,by kernel_rfl⟩
noncomputable def m51_9:T:=(.cons (.iff (.cmp .Eq (.att (.loc 1 (pp 353 11 18)) 1 (pp 353 11 23)) (.con (.str "reg") 0 (pp 353 27 32)) (pp 353 11 32)) (.cons (.exs (.mth (.loc 0 (pp 354 12 16)) 51 3 (pp 354 12 24) (.cons (.att (.loc 1 (pp 354 25 32)) 25 (pp 354 25 41)) (.cons (.loc 2 (pp 354 43 47)) (.cons (.loc 3 (pp 354 49 54)) .nil))) (pp 354 12 55)) (pp 354 12 55))
 .nil) (.cons (.iff (.cmp .Eq (.att (.loc 1 (pp 355 13 20)) 1 (pp 355 13 25)) (.con (.str "mem") 0 (pp 355 29 34)) (pp 355 13 34)) (.cons (.exs (.mth (.att (.loc 0 (pp 356 12 16)) 16 (pp 356 12 23)) 49 4 (pp 356 12 29) (.cons (.mth (.loc 0 (pp 356 30 34)) 51 6 (pp 356 30 40) (.cons (.loc 1 (pp 356 41 48)) .nil) (pp 356 30 49)) (.cons (.bin .FloorDiv (.loc 2 (pp 356 51 55)) (.con (.int (8)) 0 (pp 356 59 60)) (pp 356 51 60)) (.cons (.loc 3 (pp 356 62 67)) .nil))) (pp 356 12 68)) (pp 356 12 68))
 .nil) (.cons (.rws (sA (kB (sA (kB (sA (bdS (mth 51 9)) 0) 1) 0) 1) 0))
 .nil) ⟨355,8,358,41⟩)
 .nil) ⟨353,8,358,41⟩)
 .nil)
theorem F_m51_9:FnOk (mth 51 9) m51_9 ["self","operand","size","worth"] ["self","operand","size","worth"] [] []:=⟨bind4 (by intros;kernel_rfl),by kernel_rfl,rfl,by kernel_rfl,by kernel_rfl⟩
noncomputable def m51_10:T:=(.cons (.asg (.sub (.att (.loc 0 (pp 361 8 12)) 13 (pp 361 8 17)) (.glb 200 (pp 361 18 23)) (pp 361 8 24)) (.cal (.glb 6 (pp 361 27 31)) (.cons (.bin .Sub (.sub (.att (.loc 0 (pp 361 32 36)) 13 (pp 361 32 41)) (.glb 200 (pp 361 42 47)) (pp 361 32 48)) (.loc 2 (pp 361 51 56)) (pp 361 32 56)) (.cons (.con (.int (64)) 0 (pp 361 58 60)) .nil)) (pp 361 27 61)) (pp 361 8 61))
 (.cons (.exs (.mth (.att (.loc 0 (pp 362 8 12)) 16 (pp 362 8 19)) 49 4 (pp 362 8 25) (.cons (.sub (.att (.loc 0 (pp 362 26 30)) 13 (pp 362 26 35)) (.glb 200 (pp 362 36 41)) (pp 362 26 42)) (.cons (.loc 2 (pp 362 44 49)) (.cons (.loc 1 (pp 362 51 56)) .nil))) (pp 362 8 57)) (pp 362 8 57))
 .nil))
theorem F_m51_10:FnOk (mth 51 10) m51_10 ["self","worth","width"] ["self","worth","width"] [] [200,6]:=⟨bind3 (by intros;kernel_rfl),by kernel_rfl,rfl,by kernel_rfl,by kernel_rfl⟩
noncomputable def m51_11:T:=(.cons (.asg (.loc 2 (pp 365 8 13)) (.mth (.att (.loc 0 (pp 365 16 20)) 16 (pp 365 16 27)) 49 3 (pp 365 16 32) (.cons (.sub (.att (.loc 0 (pp 365 33 37)) 13 (pp 365 33 42)) (.glb 200 (pp 365 43 48)) (pp 365 33 49)) (.cons (.loc 1 (pp 365 51 56)) .nil)) (pp 365 16 57)) (pp 365 8 57))
 (.cons (.asg (.sub (.att (.loc 0 (pp 366 8 12)) 13 (pp 366 8 17)) (.glb 200 (pp 366 18 23)) (pp 366 8 24)) (.cal (.glb 6 (pp 366 27 31)) (.cons (.bin .Add (.sub (.att (.loc 0 (pp 366 32 36)) 13 (pp 366 32 41)) (.glb 200 (pp 366 42 47)) (pp 366 32 48)) (.loc 1 (pp 366 51 56)) (pp 366 32 56)) (.cons (.con (.int (64)) 0 (pp 366 58 60)) .nil)) (pp 366 27 61)) (pp 366 8 61))
 (.cons (.ret (.loc 2 (pp 367 15 20)) (pp 367 8 20))
 .nil)))
theorem F_m51_11:FnOk (mth 51 11) m51_11 ["self","width","worth"] ["self","width"] ["worth"] [200,6]:=⟨bind2 (by intros;kernel_rfl),by kernel_rfl,rfl,by kernel_rfl,by kernel_rfl⟩
noncomputable def m49_6:T:=(.cons (.ret (.cal (.glb 210 (pp 259 15 20)) (.cons (.raw (kE (kS (sA (bdS (mth 49 6)) 0) 0) 1)) .nil) (pp 259 15 69)) (pp 259 8 69))
 .nil)
theorem F_m49_6:COk (mth 49 6) m49_6 ["count"] ["self","place","count"] ["place","self"] [210,206]:=⟨bind3 (by intros;kernel_rfl),by kernel_rfl,by kernel_rfl,by kernel_rfl,by kernel_rfl⟩
noncomputable def em49_6_0:T:=(.mth (.cel 0 (pp 259 22 26)) 49 1 (pp 259 22 32) (.cons (.bin .Add (.cel 1 (pp 259 33 38)) (.loc 1 (pp 259 41 43)) (pp 259 33 43)) .nil) (pp 259 22 44))
noncomputable def gm49_6_0:T:=(.loc 1 (pp 259 49 51))
noncomputable def fm49_6_0:T:=.nil
noncomputable def jm49_6_0:T:=(.cal (.glb 206 (pp 259 55 60)) (.cons (.loc 0 (pp 259 61 66)) .nil) (pp 259 55 67))
theorem S_m49_6_0:rawE (kE (kS (sA (bdS (mth 49 6)) 0) 0) 1)=.ListComp (hd (den [".0","at"] ["self","place"] em49_6_0)) [⟨hd (den [".0","at"] ["self","place"] gm49_6_0),hd (den ["count"] ["place","self"] jm49_6_0),den [".0","at"] ["self","place"] fm49_6_0,0⟩] (lcS (kE (kS (sA (bdS (mth 49 6)) 0) 0) 1)) (pp 259 21 68):=by kernel_rfl
theorem L_m49_6_0 {Q:Bt} {n:Nat} {env:Env} {own:Bool} {gs:List Nat} {a0 a1:Addr}:LcOk ⟨Q,n,env,["count"],["place","self"],[a0,a1],own,gs⟩ (scS (mth 49 6)) (lcS (kE (kS (sA (bdS (mth 49 6)) 0) 0) 1)) [".0","at"] ["self","place"] [a1,a0] []:=⟨by kernel_rfl,by kernel_rfl,rfl,by kernel_rfl⟩
noncomputable def i24:T:=(.cons (.asg (.att (.loc 0 (pp 59 8 12)) 4 (pp 59 8 15)) (.con (.int (0)) 0 (pp 59 18 19)) (pp 59 8 19))
 (.cons (.asg (.att (.loc 0 (pp 60 8 12)) 5 (pp 60 8 15)) (.con (.int (0)) 0 (pp 60 18 19)) (pp 60 8 19))
 (.cons (.asg (.att (.loc 0 (pp 61 8 12)) 6 (pp 61 8 15)) (.con (.int (0)) 0 (pp 61 18 19)) (pp 61 8 19))
 (.cons (.asg (.att (.loc 0 (pp 62 8 12)) 7 (pp 62 8 15)) (.con (.int (0)) 0 (pp 62 18 19)) (pp 62 8 19))
 (.cons (.asg (.att (.loc 0 (pp 63 8 12)) 8 (pp 63 8 15)) (.con (.int (0)) 0 (pp 63 18 19)) (pp 63 8 19))
 (.cons (.asg (.att (.loc 0 (pp 64 8 12)) 9 (pp 64 8 15)) (.con (.int (0)) 0 (pp 64 18 19)) (pp 64 8 19))
 (.cons (.asg (.att (.loc 0 (pp 65 8 12)) 10 (pp 65 8 15)) (.con (.int (0)) 0 (pp 65 18 19)) (pp 65 8 19))
 .nil)))))))
theorem F_i24:FnOk (mth 24 0) i24 ["self"] ["self"] [] []:=⟨bind1 (by intros;kernel_rfl),by kernel_rfl,rfl,by kernel_rfl,by kernel_rfl⟩
noncomputable def i41:T:=(.cons (.asg (.att (.loc 0 (pp 182 8 12)) 0 (pp 182 8 17)) (.loc 1 (pp 182 20 24)) (pp 182 8 24))
 (.cons (.asg (.att (.loc 0 (pp 183 8 12)) 1 (pp 183 8 17)) (.loc 2 (pp 183 20 24)) (pp 183 8 24))
 (.cons (.asg (.att (.loc 0 (pp 184 8 12)) 2 (pp 184 8 19)) (.loc 3 (pp 184 22 28)) (pp 184 8 28))
 (.cons (.asg (.att (.loc 0 (pp 185 8 12)) 3 (pp 185 8 17)) (.loc 4 (pp 185 20 24)) (pp 185 8 24))
 .nil))))
theorem F_i41:FnOk (mth 41 0) i41 ["self","name","kind","number","size"] ["self","name","kind","number","size"] [] []:=⟨bind5 (by intros;kernel_rfl),by kernel_rfl,rfl,by kernel_rfl,by kernel_rfl⟩
noncomputable def i49:T:=(.cons (.asg (.att (.loc 0 (pp 236 8 12)) 11 (pp 236 8 17)) (.raw (kS (sA (bdS (mth 49 0)) 0) 1)) (pp 236 8 22))
 .nil)
theorem F_i49:FnOk (mth 49 0) i49 ["self"] ["self"] [] []:=⟨bind1 (by intros;kernel_rfl),by kernel_rfl,rfl,by kernel_rfl,by kernel_rfl⟩
theorem S_i49_0:rawE (kS (sA (bdS (mth 49 0)) 0) 1)=.Dict [] [] (pp 236 20 22):=by kernel_rfl
noncomputable def i51:T:=(.cons (.asg (.att (.loc 0 (pp 282 8 12)) 12 (pp 282 8 17)) (.loc 1 (pp 282 20 24)) (pp 282 8 24))
 (.cons (.asg (.att (.loc 0 (pp 283 8 12)) 13 (pp 283 8 17)) (.bin .Mult (.lst false (.cons (.con (.int (0)) 0 (pp 283 21 22)) .nil) (pp 283 20 23)) (.con (.int (16)) 0 (pp 283 26 28)) (pp 283 20 28)) (pp 283 8 28))
 (.cons (.asg (.att (.loc 0 (pp 284 8 12)) 14 (pp 284 8 16)) (.bin .Mult (.lst false (.cons (.con (.int (0)) 0 (pp 284 20 21)) .nil) (pp 284 19 22)) (.con (.int (16)) 0 (pp 284 25 27)) (pp 284 19 27)) (pp 284 8 27))
 (.cons (.asg (.att (.loc 0 (pp 285 8 12)) 15 (pp 285 8 18)) (.cal (.glb 24 (pp 285 21 26)) .nil (pp 285 21 28)) (pp 285 8 28))
 (.cons (.asg (.att (.loc 0 (pp 286 8 12)) 16 (pp 286 8 19)) (.cal (.glb 49 (pp 286 22 28)) .nil (pp 286 22 30)) (pp 286 8 30))
 (.cons (.asg (.att (.loc 0 (pp 287 8 12)) 17 (pp 287 8 16)) (.con (.int (0)) 0 (pp 287 19 20)) (pp 287 8 20))
 (.cons (.asg (.att (.loc 0 (pp 288 8 12)) 18 (pp 288 8 18)) (.con (.int (0)) 0 (pp 288 21 22)) (pp 288 8 22))
 (.cons (.asg (.att (.loc 0 (pp 289 8 12)) 19 (pp 289 8 21)) (.raw (kS (sA (bdS (mth 51 0)) 7) 1)) (pp 289 8 42))
 (.cons (.asg (.att (.loc 0 (pp 290 8 12)) 20 (pp 290 8 22)) (.con (.bool false) 0 (pp 290 25 30)) (pp 290 8 30))
 .nil)))))))))
theorem F_i51:FnOk (mth 51 0) i51 ["self","iset"] ["self","iset"] [] [24,49]:=⟨bind2 (by intros;kernel_rfl),by kernel_rfl,rfl,by kernel_rfl,by kernel_rfl⟩
noncomputable def vi51_0:T:=(.cons (.con (.int (0)) 0 (pp 289 31 32)) (.cons (.con (.int (0)) 0 (pp 289 40 41)) .nil))
theorem S_i51_0:rawE (kS (sA (bdS (mth 51 0)) 7) 1)=.Dict (dK [("fs",(pp 289 25 29)),("gs",(pp 289 34 38))]) (den ["self","iset"] [] vi51_0) (pp 289 24 42):=by kernel_rfl
noncomputable def i58:T:=(.cons (.asg (.att (.loc 0 (pp 415 8 12)) 21 (pp 415 8 24)) (.loc 1 (pp 415 27 38)) (pp 415 8 38))
 (.cons (.asg (.att (.loc 0 (pp 416 8 12)) 22 (pp 416 8 19)) (.loc 2 (pp 416 22 28)) (pp 416 8 28))
 (.cons (.asg (.att (.loc 0 (pp 417 8 12)) 23 (pp 417 8 17)) (.loc 3 (pp 417 20 24)) (pp 417 8 24))
 (.cons (.asg (.att (.loc 0 (pp 418 8 12)) 24 (pp 418 8 21)) (.loc 4 (pp 418 24 32)) (pp 418 8 32))
 .nil))))
theorem F_i58:FnOk (mth 58 0) i58 ["self","instruction","length","form","prefixes"] ["self","instruction","length","form","prefixes"] [] []:=⟨bind5 (by intros;kernel_rfl),by kernel_rfl,rfl,by kernel_rfl,by kernel_rfl⟩
noncomputable def i74:T:=(.cons (.exs (.opi (pp 545 8 15) (pp 545 8 24) (.cons (.loc 0 (pp 545 25 29)) (.cons (.con (.str "reg") 0 (pp 545 31 36)) .nil)) (pp 545 8 37)) (pp 545 8 37))
 (.cons (.asg (.att (.loc 0 (pp 546 8 12)) 25 (pp 546 8 21)) (.loc 1 (pp 546 24 32)) (pp 546 8 32))
 .nil))
theorem F_i74:FnOk (mth 74 0) i74 ["self","register"] ["self","register"] [] [73]:=⟨bind2 (by intros;kernel_rfl),by kernel_rfl,rfl,by kernel_rfl,by kernel_rfl⟩
noncomputable def i75:T:=(.cons (.exs (.opi (pp 556 8 15) (pp 556 8 24) (.cons (.loc 0 (pp 556 25 29)) (.cons (.con (.str "imm") 0 (pp 556 31 36)) .nil)) (pp 556 8 37)) (pp 556 8 37))
 (.cons (.asg (.att (.loc 0 (pp 557 8 12)) 26 (pp 557 8 18)) (.loc 1 (pp 557 21 26)) (pp 557 8 26))
 (.cons (.asg (.att (.loc 0 (pp 558 8 12)) 0 (pp 558 8 17)) (.loc 2 (pp 558 20 24)) (pp 558 8 24))
 .nil)))
theorem F_i75:DOk (mth 75 0) i75 ["self","worth","name"] ["self","worth","name"] [] [73] 2 1 0:=⟨bindDN fun _ _ _ _ _=>by show _=_;kernel_rfl,by kernel_rfl,rfl,by kernel_rfl,by kernel_rfl⟩
noncomputable def i76:T:=(.cons (.exs (.opi (pp 568 8 15) (pp 568 8 24) (.cons (.loc 0 (pp 568 25 29)) (.cons (.con (.str "rel") 0 (pp 568 31 36)) .nil)) (pp 568 8 37)) (pp 568 8 37))
 (.cons (.asg (.att (.loc 0 (pp 569 8 12)) 26 (pp 569 8 18)) (.loc 1 (pp 569 21 26)) (pp 569 8 26))
 (.cons (.asg (.att (.loc 0 (pp 570 8 12)) 0 (pp 570 8 17)) (.loc 2 (pp 570 20 24)) (pp 570 8 24))
 .nil)))
theorem F_i76:DOk (mth 76 0) i76 ["self","worth","name"] ["self","worth","name"] [] [73] 2 1 0:=⟨bindDN fun _ _ _ _ _=>by show _=_;kernel_rfl,by kernel_rfl,rfl,by kernel_rfl,by kernel_rfl⟩
noncomputable def i77:T:=(.cons (.exs (.opi (pp 583 8 15) (pp 583 8 24) (.cons (.loc 0 (pp 583 25 29)) (.cons (.con (.str "mem") 0 (pp 583 31 36)) .nil)) (pp 583 8 37)) (pp 583 8 37))
 (.cons (.asg (.att (.loc 0 (pp 584 8 12)) 27 (pp 584 8 17)) (.loc 1 (pp 584 20 24)) (pp 584 8 24))
 (.cons (.asg (.att (.loc 0 (pp 585 8 12)) 28 (pp 585 8 18)) (.loc 2 (pp 585 21 26)) (pp 585 8 26))
 (.cons (.asg (.att (.loc 0 (pp 586 8 12)) 29 (pp 586 8 18)) (.loc 3 (pp 586 21 26)) (pp 586 8 26))
 (.cons (.asg (.att (.loc 0 (pp 587 8 12)) 26 (pp 587 8 18)) (.loc 4 (pp 587 21 26)) (pp 587 8 26))
 (.cons (.asg (.att (.loc 0 (pp 588 8 12)) 3 (pp 588 8 17)) (.loc 5 (pp 588 20 24)) (pp 588 8 24))
 (.cons (.asg (.att (.loc 0 (pp 589 8 12)) 30 (pp 589 8 20)) (.loc 6 (pp 589 23 30)) (pp 589 8 30))
 (.cons (.asg (.att (.loc 0 (pp 590 8 12)) 0 (pp 590 8 17)) (.loc 7 (pp 590 20 24)) (pp 590 8 24))
 .nil))))))))
theorem F_i77a:DOk (mth 77 0) i77 ["self","base","index","scale","worth","size","segment","name"] ["self","base","index","scale","worth","size","segment","name"] [] [73] 5 3 0:=⟨bindDN fun _ _ _ _ _ _ _ _ _ _=>by show _=_;kernel_rfl,by kernel_rfl,rfl,by kernel_rfl,by kernel_rfl⟩
theorem F_i77b:DOk (mth 77 0) i77 ["self","base","index","scale","worth","size","segment","name"] ["self","base","index","scale","worth","size","segment","name"] [] [73] 6 3 1:=⟨bindDN fun _ _ _ _ _ _ _ _ _ _ _=>by show _=_;kernel_rfl,by kernel_rfl,rfl,by kernel_rfl,by kernel_rfl⟩
noncomputable def i78:T:=(.cons (.asg (.att (.loc 0 (pp 611 8 12)) 0 (pp 611 8 17)) (.loc 1 (pp 611 20 24)) (pp 611 8 24))
 (.cons (.asg (.att (.loc 0 (pp 612 8 12)) 31 (pp 612 8 21)) (.cal (.glb 209 (pp 612 24 29)) (.cons (.loc 2 (pp 612 30 38)) .nil) (pp 612 24 39)) (pp 612 8 39))
 (.cons (.asg (.att (.loc 0 (pp 613 8 12)) 32 (pp 613 8 19)) (.loc 3 (pp 613 22 28)) (pp 613 8 28))
 .nil)))
theorem F_i78:DOk (mth 78 0) i78 ["self","name","operands","prefix"] ["self","name","operands","prefix"] [] [209] 3 1 0:=⟨bindDN fun _ _ _ _ _ _=>by show _=_;kernel_rfl,by kernel_rfl,rfl,by kernel_rfl,by kernel_rfl⟩
noncomputable def i73:T:=(.cons (.asg (.att (.loc 0 (pp 532 8 12)) 1 (pp 532 8 17)) (.loc 1 (pp 532 20 24)) (pp 532 8 24))
 .nil)
theorem F_i73:FnOk (mth 73 0) i73 ["self","kind"] ["self","kind"] [] []:=⟨bind2 (by intros;kernel_rfl),by kernel_rfl,rfl,by kernel_rfl,by kernel_rfl⟩
end
section
open Builtin Builtin.ObjectAttr
set_option tactic.hygienic false
structure Ma where
 S:Addr
 R:Addr
 F:Addr
 M:Addr
 H:Addr
 X:Addr
 G:Addr
noncomputable abbrev BV:=BitVec 64
noncomputable abbrev B8:=BitVec 8
@[reducible] noncomputable def fl7 (cf pf af zf sf of:Int):List AV:=[.int cf,.int pf,.int af,.int zf,.int sf,.int of,.int 0]
@[reducible] noncomputable def rl (R:Int→BV):List AV:=[.int (R 0).toNat,.int (R 1).toNat,.int (R 2).toNat,.int (R 3).toNat,.int (R 4).toNat,.int (R 5).toNat,.int (R 6).toNat,.int (R 7).toNat,.int (R 8).toNat,.int (R 9).toNat,.int (R 10).toNat,.int (R 11).toNat,.int (R 12).toNat,.int (R 13).toNat,.int (R 14).toNat,.int (R 15).toNat]
@[reducible] noncomputable def sfs (a:Ma) (rip beg:Int) (halt:Bool):List AV:=[.none,.ref a.R,.ref a.X,.ref a.F,.ref a.M,.int rip,.int beg,.ref a.G,.bool halt]
@[reducible] noncomputable def held (H:Int→Option B8):Int→Option AV:=fun k=>(H k).map fun b=>.int (b.toNat:Int)
@[reducible] noncomputable def SC (a:Ma) (R:Int→BV) (cf pf af zf sf of:Int) (H:Int→Option B8) (k:Nat) (rip beg:Int) (halt:Bool) (σ:St):St:=
 (a.S,.inst 51 (sfs a rip beg halt))::(a.R,.lst (rl R))::(a.F,.inst 24 (fl7 cf pf af zf sf of))::(a.M,.inst 49 [.ref a.H])::(a.H,.zd (held H) k)::σ
noncomputable def upd {β:Type} (f:Int→β) (k:Int) (v:β):Int→β:=fun j=>if j=k then v else f j
noncomputable def names64:List Str:=["rax","rcx","rdx","rbx","rsp","rbp","rsi","rdi"]
@[reducible] noncomputable def regV (k:Int):AV:=.inst 41 [.str (names64.getD k.toNat ""),.str "gpr",.int k,.int 64]
@[reducible] noncomputable def regO (k:Int):AV:=.inst 74 [.str "reg",regV k]
@[reducible] noncomputable def immO (v:Int):AV:=.inst 75 [.str "imm",.int v,.str ""]
@[reducible] noncomputable def relO (v:Int):AV:=.inst 76 [.str "rel",.int v,.str ""]
@[reducible] noncomputable def memO (b:Int) (x:AV) (far z:Int):AV:=.inst 77 [.str "mem",regV b,x,.int 1,.int far,.int z,.str "",.str ""]
@[reducible] noncomputable def insV (name:Str) (ops:List AV):AV:=.inst 78 [.str name,.tup ops,.str ""]
@[reducible] noncomputable def decV (i:AV) (wd:Int):AV:=.inst 58 [i,.int wd,.none,.none]
noncomputable def rlN (R:Int→BV):List AV:=(List.range 16).map fun (i:Nat)=>.int (R (i:Int)).toNat
theorem rl_get (R:Int→BV) {k:Int} (h0:0≤k) (h1:k < 16):(rl R)[k.toNat]?=some (.int (R k).toNat):=by
 obtain ⟨m,rfl⟩:=Int.eq_ofNat_of_zero_le h0
 show (rlN R)[m]?=_
 rw [rlN,List.getElem?_map,List.getElem?_range (Int.ofNat_lt.mp h1)]
 rfl
theorem rl_set (R:Int→BV) {k:Int} {v:BV} (h0:0≤k) (h1:k < 16):(rl R).set k.toNat (.int (v.toNat:Int))=rl (upd R k v):=by
 obtain ⟨m,rfl⟩:=Int.eq_ofNat_of_zero_le h0
 show (rlN R).set m _=rlN (upd R m v)
 refine List.ext_getElem? fun j=>?_
 rw [List.getElem?_set,rlN,rlN,List.getElem?_map,List.getElem?_map,List.length_map,List.length_range]
 by_cases q:m=j
 ·subst q
  have h1:=Int.ofNat_lt.mp h1
  rw [if_pos rfl,if_pos h1,List.getElem?_range h1]
  exact congrArg (fun z:BV=>some (AV.int (z.toNat:Int))) (if_pos rfl).symm
 ·rw [if_neg q]
  by_cases hj:j < 16
  ·rw [List.getElem?_range hj]
   exact congrArg (fun z:BV=>some (AV.int (z.toNat:Int))) (if_neg fun e=>q (Int.ofNat.inj e).symm).symm
  ·rw [List.getElem?_eq_none (by rw [List.length_range];exact Nat.le_of_not_lt hj)]
   rfl
noncomputable def conds:List Str:=["o","no","b","ae","e","ne","be","a","s","ns","p","np","l","ge","le","g"]
section
variable {Q:Bt} {n:Nat} {σ:St} {args:List AV} {Φ:AV→St→Prop}
end
end
section
open Builtin Builtin.ObjectAttr
noncomputable def sgn (v:BV):Int:=if v.msb then 1 else 0
noncomputable def zfI (v:BV):Int:=if v=0#64 then 1 else 0
noncomputable def cfI (a b:BV):Int:=if a.toNat < b.toNat then 1 else 0
noncomputable def ofI (a b:BV):Int:=sgn ((a ^^^ b) &&& (a ^^^ (a - b)))
theorem sgn_fdiv (v:BV):((v.toNat:Int).fdiv (2^((64:Int) - 1).toNat)) % 2=sgn v:=by
 rw [Int.fdiv_eq_ediv_of_nonneg _ (by decide)]
 have:((2:Int)^((64:Int) - 1).toNat)=2^63:=rfl
 rw [this]
 unfold sgn
 rw [BitVec.msb_eq_decide]
 have:=v.isLt
 split
 ·rename_i q;have q:=of_decide_eq_true q;lia
 ·rename_i q;have q:=of_decide_eq_false (Bool.not_eq_true _▸q);lia
theorem bitAnd_bv (a b:BV):bitAnd (a.toNat:Int) (b.toNat:Int)=((a &&& b).toNat:Int):=by rw [bitAnd_pp (by lia) (by lia),BitVec.toNat_and];rfl
theorem or_xor_and (a:Nat):∀ b:Nat,a ||| b=(a ^^^ b)+(a &&& b):=by
 induction a using Nat.strongRecOn with
 | ind a ih=>
  intro b
  by_cases h0:a=0
  ·subst h0;simp
  ·have i:=ih (a / 2) (by lia) (b / 2)
   have h1:(a ||| b) / 2=a / 2 ||| b / 2:=Nat.or_div_two
   have h2:(a ^^^ b) / 2=a / 2 ^^^ b / 2:=Nat.xor_div_two
   have h3:(a &&& b) / 2=a / 2 &&& b / 2:=Nat.and_div_two
   have m1:(a ||| b) % 2=(a % 2) ||| (b % 2):=by have:=Nat.or_mod_two_pow (a:=a) (b:=b) (n:=1);simpa using this
   have m2:(a ^^^ b) % 2=(a % 2) ^^^ (b % 2):=by have:=Nat.xor_mod_two_pow (a:=a) (b:=b) (n:=1);simpa using this
   have m3:(a &&& b) % 2=(a % 2) &&& (b % 2):=by have:=Nat.and_mod_two_pow (a:=a) (b:=b) (n:=1);simpa using this
   have key:(a % 2) ||| (b % 2)=((a % 2) ^^^ (b % 2))+((a % 2) &&& (b % 2)):=by
    have ha:a % 2=0∨a % 2=1:=by lia
    have hb:b % 2=0∨b % 2=1:=by lia
    rcases ha with e|e<;>rcases hb with e'|e'<;>rw [e,e']<;>rfl
   lia
theorem bitOr_bv (a b:BV):bitOr (a.toNat:Int) (b.toNat:Int)=((a ||| b).toNat:Int):=by
 rw [BitVec.toNat_or]
 show Builtin.bitNot (Builtin.bitAnd (Builtin.bitNot _) (Builtin.bitNot _))=_
 rw [bitAnd_nn (by rw [bitNot_nonneg];lia) (by rw [bitNot_nonneg];lia),bitNot_bitNot,bitNot_bitNot,bitNot_bitNot]
 rfl
theorem bitXor_bv (a b:BV):bitXor (a.toNat:Int) (b.toNat:Int)=((a ^^^ b).toNat:Int):=by
 show Builtin.bitOr _ _ - Builtin.bitAnd _ _=_
 rw [bitOr_bv,bitAnd_bv,BitVec.toNat_or,BitVec.toNat_and,BitVec.toNat_xor,or_xor_and]
 lia
theorem ofInt_self (a:BV):BitVec.ofInt 64 (a.toNat:Int)=a:=by rw [BitVec.ofInt_natCast,BitVec.ofNat_toNat,BitVec.setWidth_eq]
theorem ofInt_sub (a b:BV):BitVec.ofInt 64 ((a.toNat:Int) - b.toNat - 0)=a - b:=by rw [Int.sub_zero,Int.sub_eq_add_neg,BitVec.ofInt_add,BitVec.ofInt_neg,ofInt_self,ofInt_self,BitVec.sub_eq_add_neg]
theorem ofInt_add (a b:BV):BitVec.ofInt 64 ((a.toNat:Int)+b.toNat+0)=a+b:=by rw [Int.add_zero,BitVec.ofInt_add,ofInt_self,ofInt_self]
theorem zfI_eq (v:BV):(if decide ((v.toNat:Int)=0)=true then (1:Int) else 0)=zfI v:=by
 unfold zfI
 by_cases q:v=0#64
 ·rw [if_pos q,if_pos (by rw [q];rfl)]
 ·rw [if_neg q,if_neg fun e=>q (BitVec.eq_of_toNat_eq (y:=0#64) (by have:=of_decide_eq_true e;show v.toNat=0;lia))]
theorem cfI_eq (u v:BV):(if decide ((u.toNat:Int) - v.toNat - 0 < 0)=true then (1:Int) else 0)=cfI u v:=by
 unfold cfI
 by_cases q:u.toNat < v.toNat
 ·rw [if_pos q,if_pos (decide_eq_true (by lia))]
 ·rw [if_neg q,if_neg (by rw [decide_eq_true_eq];lia)]
noncomputable def pl (p:Int):Int:=((BitVec.ofInt 64 p).toNat:Int)
noncomputable def oct (H:Int→Option B8) (p:Int):B8:=(H (pl p)).getD 0
theorem held_get (H:Int→Option B8) (p:Int):(held H (pl p)).getD (.int 0)=.int ((oct H p).toNat:Int):=by
 unfold held oct
 cases H (pl p)<;>rfl
noncomputable def racc (H:Int→Option B8) (p:Int):Nat→Int
 | 0=>0
 | j+1=>racc H p j+(oct H (p+j)).toNat*2^((8:Int)*j).toNat
noncomputable def rd (H:Int→Option B8) (p:Int):BV:=BitVec.ofInt 64 (racc H p 8)
noncomputable def byt (v:BV) (i:Nat):B8:=BitVec.ofNat 8 (v.toNat / 2^(8*i))
noncomputable def wrN (H:Int→Option B8) (p:Int) (v:BV):Nat→Int→Option B8
 | 0=>H
 | j+1=>upd (wrN H p v j) (pl (p+j)) (some (byt v j))
noncomputable def wr (H:Int→Option B8) (p:Int) (v:BV):Int→Option B8:=wrN H p v 8
theorem byt_eq (v:BV) (i:Nat):bitAnd ((v.toNat:Int).fdiv (2^(8*i))) 255=((byt v i).toNat:Int):=by
 rw [bitAnd_m8,Int.fdiv_eq_ediv_of_nonneg _ (Int.le_of_lt (Int.pow_pos (by decide)))]
 unfold byt
 rw [BitVec.toNat_ofNat]
 have e:((2:Int)^(8*i))=((2^(8*i):Nat):Int):=by rw [Int.natCast_pow];rfl
 rw [e,← Int.natCast_ediv]
 rfl
theorem racc_lt (H:Int→Option B8) (p:Int):∀ j:Nat,0≤racc H p j∧racc H p j < 2^(8*j)
 | 0=>⟨Int.le_refl _,(by decide:(0:Int) < 2^(8*0))⟩
 | j+1=>by
  obtain ⟨h0,h1⟩:=racc_lt H p j
  have a:=(oct H (p+j)).isLt
  have e:((8:Int)*j).toNat=8*j:=Int.toNat_natCast (8*j)
  have z:(0:Int) < 2^(8*j):=Int.pow_pos (by decide)
  rw [racc,e,show 8*(j+1)=8*j+8 from rfl,Int.pow_add]
  generalize (2:Int)^(8*j)=w at h1 z ⊢
  have hm:((oct H (p+j)).toNat:Int)*w≤255*w:=Int.mul_le_mul_of_nonneg_right (by lia) (Int.le_of_lt z)
  have hz:0≤((oct H (p+j)).toNat:Int)*w:=Int.mul_nonneg (Int.natCast_nonneg _) (Int.le_of_lt z)
  generalize ((oct H (p+j)).toNat:Int)*w=y at hm hz ⊢
  show 0≤_∧_ < w*256
  lia
theorem rd_eq (H:Int→Option B8) (p:Int):racc H p 8=((rd H p).toNat:Int):=by
 obtain ⟨h0,h1⟩:=racc_lt H p 8
 rw [rd,BitVec.toNat_ofInt,Int.toNat_of_nonneg (Int.emod_nonneg _ (by decide))]
 exact (Int.emod_eq_of_lt h0 h1).symm
section
variable {Q:Bt} {σ:St} {a:Addr} {K:St→Prop}
theorem w_startsE {n:Nat} {x y:Str} {b:Bool} {Φ:AV→St→Prop} (e:Txt.startswith x y=b) (h:Φ (.bool b) σ):WC Q n (.builtin "str.startswith") [.str x,.str y] σ Φ:=w_starts (e.symm▸h)
theorem w_lenT0 {n:Nat} {Φ:AV→St→Prop} (h:Φ (.int 0) σ):WC Q n (.builtin "len") [.tup []] σ Φ:=w_lenT (l:=[]) (Nat.zero_le _) h
theorem w_lenT1 {n:Nat} {x:AV} {Φ:AV→St→Prop} (h:Φ (.int 1) σ):WC Q n (.builtin "len") [.tup [x]] σ Φ:=w_lenT (l:=[x]) (show 1≤10^9 by decide) h
theorem w_lenT2 {n:Nat} {x y:AV} {Φ:AV→St→Prop} (h:Φ (.int 2) σ):WC Q n (.builtin "len") [.tup [x,y]] σ Φ:=w_lenT (l:=[x,y]) (show 2≤10^9 by decide) h
theorem w_lenT3 {n:Nat} {x y z:AV} {Φ:AV→St→Prop} (h:Φ (.int 3) σ):WC Q n (.builtin "len") [.tup [x,y,z]] σ Φ:=w_lenT (l:=[x,y,z]) (show 3≤10^9 by decide) h
theorem cs_eT {x y:Str} {K:Bool→Prop} (e:(x==y)=true) (k:K true):CmpS Q σ .Eq (.str x) (.str y) K:=cs_eqS (e.symm▸k)
theorem held_upd (H:Int→Option B8) (k:Int) (b:B8):held (upd H k (some b))=fun j=>if j=k then some (.int (b.toNat:Int)) else held H j:=by
 funext j
 unfold held upd
 by_cases q:j=k
 ·rw [if_pos q,if_pos q];rfl
 ·rw [if_neg q,if_neg q]
structure Lp (K:Ks) (P:Rho→St→Prop) (Z:Ks):Prop where
 next:∀ {ρ σ},P ρ σ→Z .next ρ σ
 cont:∀ {ρ σ},P ρ σ→Z .cont ρ σ
 brk:∀ {ρ σ},K .next ρ σ→Z .brk ρ σ
 ret:∀ {v ρ σ},K (.ret v) ρ σ→Z (.ret v) ρ σ
theorem for_at {as:AV→Rho→St→Kt→Prop} {bd:Rho→St→Ks→Prop} {K:Ks} {l:List AV}:∀ (P:Nat→Rho→St→Prop) {ρ:Rho} {σ:St},P 0 ρ σ →
  (∀ i d ρ σ Z,l[i]?=some d→P i ρ σ→Lp K (P (i+1)) Z→as d ρ σ fun _ ρ σ=>bd ρ σ Z)→(∀ ρ σ,P l.length ρ σ→K .next ρ σ)→forR as bd l ρ σ K:=by
 induction l with
 | nil=>exact fun P ρ σ h0 _ hK=>hK _ _ h0
 | cons d l ih=>exact fun P ρ σ h0 h hK=>h 0 d ρ σ _ rfl h0 ⟨fun p=>ih (fun i=>P (i+1)) p (fun i d ρ σ Z e=>h (i+1) d ρ σ Z e) hK,fun p=>ih (fun i=>P (i+1)) p (fun i d ρ σ Z e=>h (i+1) d ρ σ Z e) hK,id,id⟩
theorem nil_ {C:Cn} {f:Nat} {ρ:Rho} {σ:St} {K:Ks} (h:K .next ρ σ):runS C (f+1) true .nil ρ σ K:=h
theorem cutX {C:Cn} {f:Nat} {s₀ r₀:T} {ρ:Rho} {σ:St} {K:Ks} (P:Rho→St→Prop) (h:∀ Z:Ks,(∀ ρ' σ',P ρ' σ'→Z .next ρ' σ')→(∀ v ρ' σ',K (.ret v) ρ' σ'→Z (.ret v) ρ' σ')→runS C f false s₀ ρ σ Z) (h':∀ ρ' σ',P ρ' σ'→runS C f true r₀ ρ' σ' K):runS C (f+1) true (.cons s₀ r₀) ρ σ K:=h _ h' fun _ _ _ k=>k
theorem comp_n {as:AV→Rho→St→Kt→Prop} {cd el:Rho→St→Kt→Prop} {K:List AV→St→Prop} {l:List AV}:∀ (P:Nat→List AV→Rho→St→Prop) {acc:List AV} {ρ:Rho} {σ:St},P 0 acc ρ σ →
  (∀ i d acc ρ σ (Z:List AV→Rho→St→Prop),l[i]?=some d→P i acc ρ σ→(∀ acc ρ σ,P (i+1) acc ρ σ→Z acc ρ σ)→as d ρ σ fun _ ρ σ=>cd ρ σ fun c ρ σ=>asB c fun c=>Br c (el ρ σ fun y ρ σ=>Z (acc++[y]) ρ σ) (Z acc ρ σ))→(∀ acc ρ σ,P l.length acc ρ σ→K acc σ)→WComp as cd el l acc ρ σ K:=by
 induction l with
 | nil=>exact fun P _ _ _ h0 _ hK=>hK _ _ _ h0
 | cons d l ih=>exact fun P acc ρ σ h0 h hK=>h 0 d acc ρ σ _ rfl h0 fun acc ρ σ p=>ih (fun i=>P (i+1)) p (fun i d acc ρ σ Z e=>h (i+1) d acc ρ σ Z e) hK
theorem comp_fm {as:AV→Rho→St→Kt→Prop} {cd el:Rho→St→Kt→Prop} {K:List AV→St→Prop} {σ:St} (R:Rho→Prop) (t:AV→Bool) (F:AV→AV) {l:List AV}:∀ {acc r:List AV} {ρ:Rho},R ρ →
  (∀ d∈l,∀ (ρ:Rho) (acc:List AV) (Z:List AV→Rho→St→Prop),R ρ→(∀ ρ',R ρ'→Z (if t d then acc++[F d] else acc) ρ' σ)→as d ρ σ fun _ ρ σ=>cd ρ σ fun c ρ σ=>asB c fun c=>Br c (el ρ σ fun y ρ σ=>Z (acc++[y]) ρ σ) (Z acc ρ σ)) →
  acc++(l.filter t).map F=r→K r σ→WComp as cd el l acc ρ σ K:=by
 induction l with
 | nil=>exact fun _ _ e h=>(show _=_ from (List.append_nil _).symm.trans e)▸h
 | cons d l ih=>
  intro acc r ρ hR step e h
  refine step d (.head _) ρ acc (fun acc ρ σ=>WComp as cd el l acc ρ σ K) hR fun ρ' hR'=>ih hR' (fun d m=>step d (.tail _ m)) ?_ h
  rw [← e,List.filter_cons]
  cases t d with
  | true=>rw [if_pos rfl,if_pos rfl,List.map_cons,List.append_assoc];rfl
  | false=>rw [if_neg Bool.false_ne_true,if_neg Bool.false_ne_true]
theorem irange_get {lo:Int} {n i:Nat} {d:AV} (h:(irange lo n)[i]?=some d):i < n∧d=.int (lo+i):=by
 rw [irange,List.getElem?_map] at h
 by_cases q:i < n
 ·rw [List.getElem?_range q] at h
  exact ⟨q,(Option.some.inj h).symm⟩
 ·rw [List.getElem?_eq_none (by rw [List.length_range];exact Nat.le_of_not_lt q)] at h
  cases h
theorem irange_len {lo:Int} {n:Nat}:(irange lo n).length=n:=by rw [irange,List.length_map,List.length_range]
theorem it_frz {σ' σ₂:St} {c:Cell} {d:AV} {tk:Bool} {l:List AV} (hc:TakeC σ a c σ') (hf:frz c=some d) (h:IterOk Q σ' d tk l σ₂):IterOk Q σ (.ref a) tk l σ₂:=fun A p u G hh hu I hv k=>by
 obtain rfl:=v_ref hv
 obtain ⟨W',x,I',v⟩:=freeze I hc hf
 exact h A ⟨W',p.s⟩ (.ref a) G hh hu I' v fun q b y=>k q b (x.trans y)
theorem st_held {k:Int} {b:B8} (h:Stop (Up σ a fun c g=>∃ H z,c=.zd (held H) z∧z≤1000000∧K (g (.zd (held (upd H k (some b))) (z+1))))):Stop (SetS Q σ (.ref a) (.int k) (.int (b.toNat:Int)) K):=by
 obtain ⟨⟨s₁,c,s₂,e,H,z,e',hz,h⟩⟩:=h
 rw [held_upd] at h
 exact st_zd hz ⟨s₁,c,s₂,e,e',h⟩
theorem st_reg {k:Int} {v:BV} (h0:0≤k) (h1:k < 16) (h:Stop (Up σ a fun c g=>∃ R,c=.lst (rl R)∧K (g (.lst (rl (upd R k v)))))):Stop (SetS Q σ (.ref a) (.int k) (.int (v.toNat:Int)) K):=by
 obtain ⟨⟨s₁,c,s₂,rfl,R,rfl,h⟩⟩:=h
 rw [← rl_set R h0 h1] at h
 exact ⟨ss_lst h0 h1 (Nat.le_of_ble_eq_true (by kernel_rfl)) h⟩
theorem w_appU {n:Nat} {d:AV} {Φ:AV→St→Prop} (h:Stop (Up σ a fun c g=>∃ l,c=.lst l∧l.length≤2^23∧Φ .none (g (.lst (l++[d]))))):WC Q n (.builtin "list.append") [.ref a,d] σ Φ:=by
 obtain ⟨⟨s₁,c,s₂,rfl,l,rfl,hz,h⟩⟩:=h
 exact w_app hz h
theorem WG.lv {n n' j:Nat} {args:List AV} {Φ:AV→St→Prop} (e:n'=n) (h:WG Q n j args σ Φ):WG Q n' j args σ Φ:=e▸h
theorem st_sdE {y:Str} {d:AV} (h:Stop (Up σ a fun c g=>∃ fs,c=.sd fs∧fs.length≤1000∧K (g (.sd (putS y d fs))))):Stop (SetS Q σ (.ref a) (.str y) d K):=by
 obtain ⟨⟨s₁,c,s₂,e,fs,e',hz,h⟩⟩:=h
 exact st_sd hz ⟨s₁,c,s₂,e,e',h⟩
end
@[reducible] noncomputable def penL (cells:List Int) (s g:Int):List AV:=[.lst (cells.map .int),.int s,.int g]
noncomputable def Pen (cells:List Int) (u:Nat) (s:Int):Prop:=cells.length≤63∧0≤s∧s+u≤100000
theorem Pen.le {cells:List Int} {u v:Nat} {s:Int} (h:Pen cells v s) (k:u≤v):Pen cells u s:=⟨h.1,h.2.1,by have:=h.2.2;lia⟩
theorem Pen.on {cells:List Int} {u:Nat} {s s':Int} (h:Pen cells (u+1) s) (k:s≤s') (k':s'≤s+1):Pen cells u s':=⟨h.1,by have:=h.2.1;lia,by have:=h.2.2;lia⟩
theorem List.at_mem {α:Type} {P:α→Prop} {l:List α} {a:α} (h:∀ b∈l,P b) (m:a∈l):P a:=h a m
theorem log2_9000 {many:Int} (hm:0 < many) (hM:many≤2^64):many.natAbs.log2 < 9000:=by
 have:many.natAbs.log2 < 65:=(Nat.log2_lt (by lia)).mpr (by lia)
 lia
theorem fmod_bd {x many:Int} (hm:0 < many):0≤x.fmod many∧x.fmod many < many:=by
 rw [Int.fmod_eq_emod_of_nonneg _ (by lia)]
 exact ⟨Int.emod_nonneg _ (by lia),Int.emod_lt_of_pos _ hm⟩
theorem cell_get {cells:List Int} {k:Int} (h0:0≤k) (h1:k < cells.length):(cells.map AV.int)[k.toNat]?=some (.int (cells[k.toNat]'(by lia))):=by
 rw [List.getElem?_map,List.getElem?_eq_getElem (by lia)];rfl
theorem mix_bd {m s:Int} (h0:0≤m) (h1:m < 2147483629) (h2:0≤s) (h3:s≤100000):0≤m*(2*s+8087)+58153*s*s+71∧m*(2*s+8087)+58153*s*s+71 < 2^63:=by
 have a1:0≤m*(2*s+8087):=Int.mul_nonneg h0 (by lia)
 have a2:m*(2*s+8087)≤2147483629*208087:=Int.mul_le_mul (by lia) (by lia) (by lia) (by lia)
 have a3:0≤58153*s*s:=Int.mul_nonneg (by lia) h2
 have a4:58153*s*s≤58153*100000*100000:=Int.mul_le_mul (by lia) (by lia) (by lia) (by lia)
 lia
end
section
open Builtin Builtin.ObjectAttr
theorem vl_ints {Q:Bt} {F:FH}:∀ {vs:List Value} {ns:List Int},IntsAre vs ns→VL Q F vs (ns.map .int)
 | _,_,.nil=>.nil
 | _,_,.cons n t h=>.cons (.int n t) (vl_ints h)
theorem args_of {w:World} {s₀ s₁:Shared} {args:List WData} {vals:List Value} {as:List Addr} (hpre:PySem.Challenge.rw_nn0083_01.row.toRowW.claim.pre args=true) (hlay:WData.layableAll args=true) (hrd:ReadsAllW PySem.Challenge.rw_nn0083_01.row.toRowW.records (classAt s₀.heap) s₁.heap vals args as) (hwl:WellAll w.params s₁.heap vals args) (hlo:∀ a∈as,(a==sysModules)=false):
  ∃ (a:Addr) (vs:List Value) (cells:List Int),vals=[.ref a]∧s₁.heap.get? a=some { cls:=.type "list",data:=.seq vs.toArray }∧IntsAre vs cells∧cells.length≤63:=by
 wrow_args hpre hlay hrd hwl hlo
 rename_i cells _ _ _ _ _ _ _ a vs _ hL _ w1 _ hI _ hc _
 refine ⟨a,vs,cells,rfl,?_,hI,by lia⟩
 simp only [ofPy] at w1
 cases w1 with
 | list e _=>
  obtain ⟨o,e',_,n,hd⟩:=hL
  rw [e] at e'
  cases e'
  cases hd
  exact e
noncomputable def posS:Stmt→Pos
 | .FunctionDef _ _ _ _ _ _ _ _ _ p=>p
 | _=>⟨0,0,0,0⟩
section
variable {V:Program} {L:List Str} {mean:ExcName→Option Value} {mg mb:Str→Option Value} {h h0 hB:Heap}
theorem mg_eq (T:Top V L mean mg mb h) (kp:∀ b o,h0.get? b=some o→h.get? b=some o) (e:h0.isNs mainGlobals=true):mg=h0.nsMap mainGlobals:=by
 have a:=T.g.eq_nsMap
 have b:=((Heap.Ns.of_isNs e).keeps kp).eq_nsMap
 rw [a,← b]
inductive TabO (mg:Str→Option Value) (h:Heap) (i:Nat) (P0:Addr):Prop
 | mk (a:Addr) (o:Obj) (fd:FuncData) (c:Addr) (m:mg (nmS (st i))=some (.ref a)) (g:h.get? a=some o) (d:o.data=.func fd) (q:fd.code=.ref c) (t:CodeHd h c P0) (u:h.get? P0=some (tabObj #[]))
theorem tab_one (kp:∀ b o,h0.get? b=some o→h.get? b=some o) (em:mg=h0.nsMap mainGlobals) {i:Nat} {P0:Addr}
  (hk:(h0.tab0Ok (nmS (st i))&&match h0.nsMap mainGlobals (nmS (st i)) with
   | some (.ref a)=>(match h0.get? a with
    | some ⟨_,_,.func fd,_⟩=>(match fd.code with
     | .ref cc=>(match h0.get? cc with
      | some ⟨_,_,.fields vs,_⟩=>isRef P0 (some (vs.getD 11 .none))
      | _=>false)
     | _=>false)
    | _=>false)
   | _=>false)=true):
  TabO mg h i P0:=by
 obtain ⟨hx,hk⟩:=Bool.and_eq_true_iff.mp hk
 obtain ⟨a,o,fd,c,P',m1,g1,d1,c1,isC,tA⟩:=Heap.tab0Ok_spec hx
 have hh:=CodeHd.of isC tA
 obtain ⟨o',vs,file,tf,flags,tg,inF,text,tt,f1,f2,f3,f4,f5,f6⟩:=id hh
 rw [m1] at hk
 dsimp only at hk
 rw [g1] at hk
 obtain ⟨ocls,odict,odata,oslots⟩:=o
 dsimp only at d1
 subst d1
 dsimp only at hk
 rw [c1] at hk
 dsimp only at hk
 rw [f1] at hk
 obtain ⟨ccls,cdict,cdata,cslots⟩:=o'
 dsimp only at f3
 subst f3
 dsimp only at hk
 rw [f5] at hk
 have eP:P'=P0:=eq_of_beq hk
 subst eP
 exact ⟨_,_,_,_,by rw [em];exact m1,kp _ _ g1,rfl,c1,.of (isC.keeps kp) (tA.keeps kp),kp _ _ tA.2⟩
theorem code_to (hh:∀ b o,h.get? b=some o→o≠tabObj #[]→hB.get? b=some o) {cd:Value} {q:Str} (x:h.CodeRec cd q):hB.CodeRec cd q:=by
 obtain ⟨c,o,vs,t,e,g,d,r⟩:=x
 exact ⟨c,o,vs,t,e,hh _ _ g (fun q=>by rw [q] at d;cases d;simp at r),d,r⟩
theorem codeHd_to (hh:∀ b o,h.get? b=some o→o≠tabObj #[]→hB.get? b=some o) {c P:Addr} (x:CodeHd h c P):CodeHd hB c P:=by
 obtain ⟨o,vs,file,tf,flags,tg,inF,text,tt,e1,r1,r2⟩:=x
 exact ⟨o,vs,file,tf,flags,tg,inF,text,tt,hh _ _ e1 (fun q=>by rw [q] at r1;cases r1),r1,r2⟩
inductive FnO (h0:Heap) (a:Addr) (dfl:Value→Bool) (p:Arguments) (b:List Stmt) (s:Scope):Prop
 | mk (o:Obj) (fd:FuncData) (e:h0.get? a=some o) (d:o.data=.func fd) (c:h0.CodeRec fd.code fd.qualname) (e1:fd.params=p) (e2:fd.body=.stmts b) (e3:fd.scope=s) (e4:fd.globals=mainGlobals) (e5:fd.builtins=builtinsNs) (e6:fd.closure=[]) (e7:dfl fd.defaults=true)
theorem fnOk_of {a:Addr} {dfl:Value→Bool} {p:Arguments} {b:List Stmt} {s:Scope} (x:fnOk h0 a dfl=true) (y:fnPr h0 a=some (p,.stmts b,s)):
  FnO h0 a dfl p b s:=by
 unfold fnOk at x
 unfold fnPr at y
 cases q:h0.get? a with
 | none=>rw [q] at x;cases x
 | some o=>
  rw [q] at x y
  obtain ⟨ocls,odict,odata,oslots⟩:=o
  cases odata<;>first|exact ffE x|skip
  rename_i fd
  dsimp only at x y
  simp only [Bool.and_eq_true,beq_iff_eq,List.isEmpty_iff] at x
  obtain ⟨⟨⟨⟨x1,x2⟩,x3⟩,x4⟩,x5⟩:=x
  have y:=Option.some.inj y
  obtain ⟨y1,y⟩:=Prod.mk.inj y
  obtain ⟨y2,y3⟩:=Prod.mk.inj y
  exact ⟨⟨ocls,odict,.func fd,oslots⟩,fd,q,rfl,.of_ok x1,y1,y2,y3,x2,x3,x4,x5⟩
end
theorem vIs_v {Q:Bt} {F:FH} {v:Value} {d:AV} (x:vIs v d=true):V Q F v d:=by
 cases v with
 | int i k=>cases d with
  | int j=>have:=eq_of_beq (show (_==_)=true from x);subst this;exact .int _ _
  | _=>exact ffE x
 | str i k=>cases d with
  | str j=>have:=eq_of_beq (show (_==_)=true from x);subst this;exact .str _ _
  | _=>exact ffE x
 | _=>exact ffE x
theorem vsAre_vl {Q:Bt} {F:FH}:∀ {vs:List Value} {ds:List AV},vsAre vs ds=true→VL Q F vs ds
 | [],[],_=>.nil
 | v::vs,d::ds,x=>by
  obtain ⟨a,b⟩:=Bool.and_eq_true_iff.mp (show (vIs v d&&vsAre vs ds)=true from x)
  exact .cons (vIs_v a) (vsAre_vl b)
theorem frag_at {h0:Heap}:∀ {l:List Addr} {a:Addr} {o:Obj},(l.map fun a=>(a,(h0.get? a).getD default)).lookup a=some o→a∈l∧o=(h0.get? a).getD default
 | [],_,_,e=>by cases e
 | b::l,a,o,e=>by
  rw [List.map_cons,List.lookup_cons] at e
  cases hb:a==b with
  | true=>rw [hb] at e;cases e;rw [eq_of_beq hb];exact ⟨.head _,rfl⟩
  | false=>rw [hb] at e;exact ⟨.tail _ (frag_at e).1,(frag_at e).2⟩
theorem hkK_in {h0 h:Heap} (k:hkA.all (fun a=>(h0.get? a).isSome)=true) (kp:∀ b o,h0.get? b=some o→h.get? b=some o):(hkK h0).In h:=fun a o e=>by
 obtain ⟨m,e⟩:=frag_at e
 have:=List.all_eq_true.mp k a m
 cases q:h0.get? a with
 | none=>rw [q] at this;cases this
 | some o'=>rw [q] at e;rw [e];exact kp _ _ q
section
variable {V:Program} {L:List Str} {mean:ExcName→Option Value} {mg mb:Str→Option Value} {h:Heap}
theorem fn_ne {o:Obj} {fd:FuncData} (d:o.data=.func fd):o≠tabObj #[]:=fun q=>by rw [q] at d;cases d
theorem cx_of (T:Top V L mean mg mb h) (Y:Said h):∃ (tb:List (Addr × Addr)) (K:Frag),TabsAt tb h∧tb.map (·.2)=[1203,1210,1231]∧∀ prog w,Cx ⟨prog,w,ghostOf h tb,K,mg⟩:=by
 obtain ⟨h0,k,kP,kt,kF,kp⟩:=Y
 obtain ⟨k1,k⟩:=Bool.and_eq_true_iff.mp (show (hk1 h0&&(hk2 h0&&(hk3 h0&&(hk4 h0&&(hk6 h0&&hk7 h0)))))=true from k)
 obtain ⟨k2,k⟩:=Bool.and_eq_true_iff.mp k
 obtain ⟨k3,k⟩:=Bool.and_eq_true_iff.mp k
 obtain ⟨k4,k⟩:=Bool.and_eq_true_iff.mp k
 obtain ⟨k6,k7⟩:=Bool.and_eq_true_iff.mp k
 clear k
 unfold hk1 at k1
 obtain ⟨k1,k1c⟩:=Bool.and_eq_true_iff.mp k1
 obtain ⟨k1a,k1b⟩:=Bool.and_eq_true_iff.mp k1
 have em:=mg_eq T kp k1b
 have k6:=List.all_eq_true.mp k6
 obtain ⟨a0,o0,fd0,c0,m0,g0,d0,q0,t0,u0⟩:=tab_one kp em (i:=120) (k6 (120,1203) (by decide))
 obtain ⟨a1,o1,fd1,c1,m1,g1,d1,q1,t1,u1⟩:=tab_one kp em (i:=121) (k6 (121,1210) (by decide))
 obtain ⟨a2,o2,fd2,c2,m2,g2,d2,q2,t2,u2⟩:=tab_one kp em (i:=124) (k6 (124,1231) (by decide))
 have hT:TabsAt [(c0,1203),(c1,1210),(c2,1231)] h:=by
  intro q hq
  simp only [List.mem_cons,List.mem_nil_iff,or_false] at hq
  rcases hq with rfl|rfl|rfl
  ·exact ⟨t0,u0⟩
  ·exact ⟨t1,u1⟩
  ·exact ⟨t2,u2⟩
 refine ⟨[(c0,1203),(c1,1210),(c2,1231)],hkK h0,hT,rfl,fun prog w=>?_⟩
 have hh':∀ b o,h.get? b=some o→o≠tabObj #[]→(ghostOf h [(c0,1203),(c1,1210),(c2,1231)]).get? b=some o:=fun b o e n=>ghost_get hT e n
 have hh:∀ b o,h0.get? b=some o→o≠tabObj #[]→(ghostOf h [(c0,1203),(c1,1210),(c2,1231)]).get? b=some o:=fun b o e n=>hh' b o (kp _ _ e) n
 generalize hgB:ghostOf h [(c0,1203),(c1,1210),(c2,1231)]=hB at hh hh' ⊢
 unfold hk7 at k7
 obtain ⟨k7,k7e⟩:=Bool.and_eq_true_iff.mp k7
 obtain ⟨k7,k7d⟩:=Bool.and_eq_true_iff.mp k7
 obtain ⟨k7,k7c⟩:=Bool.and_eq_true_iff.mp k7
 obtain ⟨k7a,k7b⟩:=Bool.and_eq_true_iff.mp k7
 unfold hk3 at k3
 obtain ⟨k3a,k3⟩:=Bool.and_eq_true_iff.mp k3
 obtain ⟨k3b,k3c⟩:=Bool.and_eq_true_iff.mp k3
 unfold hk4 at k4
 obtain ⟨k4,k4c⟩:=Bool.and_eq_true_iff.mp k4
 obtain ⟨k4a,k4b⟩:=Bool.and_eq_true_iff.mp k4
 obtain ⟨k4c,k4d⟩:=Bool.and_eq_true_iff.mp k4c
 have k2:=List.all_eq_true.mp k2
 have k1c:=List.all_eq_true.mp k1c
 have k3a:=List.all_eq_true.mp k3a
 have k4a:=List.all_eq_true.mp k4a
 have k4b:=List.all_eq_true.mp k4b
 have k7a:=List.all_eq_true.mp k7a
 have k7b:=List.all_eq_true.mp k7b
 have k7c:=List.all_eq_true.mp k7c
 unfold hkP hkV at kP
 obtain ⟨kP,kP4⟩:=List.append_inj kP (by simp)
 obtain ⟨kP,kP3⟩:=List.append_inj kP (by simp)
 obtain ⟨kP1,kP2⟩:=List.append_inj kP (by simp)
 have kP1:=List.map_inj_left.mp kP1
 have kP2:=List.map_inj_left.mp kP2
 have kP3:=List.map_inj_left.mp kP3
 obtain ⟨kP4,kP5⟩:=List.cons.inj kP4
 obtain ⟨kP5,_⟩:=List.cons.inj kP5
 have fnI:∀ {a:Addr} {i j:Nat},fnOk h0 a isNone=true→fnPr h0 a=prAt i j→FnIs hB a (prS (mth i j)) (bdS (mth i j)) (scS (mth i j)) []:=fun x y=>by
  obtain ⟨o,fd,e,d,cr,p1,p2,p3,p4,p5,p6,p7⟩:=fnOk_of x y
  refine ⟨o,fd,hh _ _ e (fn_ne d),d,code_to hh cr,p1,p2,p3,p4,p5,p6,?_⟩
  unfold isNone at p7
  split at p7
  ·assumption
  ·cases p7
 have tfn:∀ i∈fnAll,∃ a o pm code doc,mg (nmS (st i))=some (.ref a)∧h.get? a=some o∧o.data=.func (docDef (nmS (st i)) (prS (st i)) (bdS (st i)) (scS (st i)) pm code doc)∧h.CodeRec code (nmS (st i)):=fun i hi=>
  let ⟨a,o,pm,code,doc,m,g,d,cr⟩:=Heap.hasFn_of_shape (d:=recAt i) (List.map_inj_left.mp kF i hi)
  ⟨a,o,pm,code,doc,by rw [em];exact m,kp _ _ g,d,cr.keeps kp⟩
 have ftOne:∀ {i:Nat} {P0 a:Addr} {o:Obj} {fd:FuncData} {c:Addr},i∈fnAll→mg (nmS (st i))=some (.ref a)→h.get? a=some o→o.data=.func fd→fd.code=.ref c→CodeHd h c P0→∃ a cc,mg (nmS (st i))=some (.ref a)∧FnC hB a (prS (st i)) (bdS (st i)) (scS (st i)) (nmS (st i)) (.ref cc)∧CodeHd hB cc P0:=by
  intro i P0 a o fd c hi m g d q t
  obtain ⟨a',o',pm,code,doc,m',g',d',cr⟩:=tfn i hi
  rw [m] at m'
  cases m'
  rw [g] at g'
  cases g'
  rw [d] at d'
  cases d'
  have q:code=.ref c:=q
  subst q
  exact ⟨a,c,m,⟨o,_,hh' _ _ g (fn_ne d),d,code_to hh' cr,rfl,rfl,rfl,rfl,rfl,rfl,rfl,rfl,rfl⟩,codeHd_to hh' t⟩
 refine
  { X:=(hgB▸ghost_K hT (hkK_in k1a kp) k7e:(hkK h0).In hB),g:=(hgB▸ghost_ns hT T.g:hB.Ns mainGlobals mg),lim:=?lim,bt:=⟨mb,(hgB▸ghost_ns hT T.b:hB.Ns builtinsNs mb),T.builtins⟩,Bm:=?bm,sm:=?sm,fn:=?fn,fc:=?fc,ft:=?ft,gi:=fun p hp=>?gi,gs:=fun p hp=>?gs,bl:=fun x hx=>?bl,cl:=fun i hi=>?cl,at_:=fun p hp=>(Bool.and_eq_true_iff.mp (k2 p hp)).1,sa:=fun p hp=>(Bool.and_eq_true_iff.mp (k2 p hp)).2,mt:=fun p hp=>?mt,mo:=?mo,ini:=fun i hi=>?ini,inD:=fun p hp=>?inD,opI:=⟨opA,k4c,fnI k4d kP5⟩ }
 case lim=>
  obtain ⟨mc,a,r⟩:=T.nolimit
  exact ⟨mc,hgB▸ghost_ns hT a,r⟩
 case bm=>
  obtain ⟨bm,ob,b1,b2,b3,b4,b5,b6⟩:=T.bmain
  exact ⟨bm,ob,b1,b2,hh' _ _ b3 (fun q=>by rw [q] at b4;cases b4),b4,b5,b6⟩
 case sm=>
  obtain ⟨o,e⟩:=Option.isSome_iff_exists.mp k7d
  exact ⟨o,hgB▸ghost_ne (kp _ _ e) (by show sysModules∉[1203,1210,1231];decide)⟩
 case fn=>
  intro i hi
  obtain ⟨a,o,pm,code,doc,m,g,d,cr⟩:=tfn i (List.mem_append_left _ (List.mem_append_left _ hi))
  exact ⟨a,m,o,_,hh' _ _ g (fn_ne d),d,code_to hh' cr,rfl,rfl,rfl,rfl,rfl,rfl,rfl⟩
 case fc=>
  intro i hi
  obtain ⟨a,o,pm,code,doc,m,g,d,cr⟩:=tfn i (List.mem_append_left _ (List.mem_append_right _ hi))
  exact ⟨a,_,code,m,o,_,hh' _ _ g (fn_ne d),d,code_to hh' cr,rfl,rfl,rfl,rfl,rfl,rfl,rfl,rfl,rfl⟩
 case ft=>
  intro i hi
  simp only [ftIdx,List.mem_cons,List.mem_nil_iff,or_false] at hi
  rcases hi with rfl|rfl|rfl
  ·exact ftOne (by decide) m0 g0 d0 q0 t0
  ·exact ftOne (by decide) m1 g1 d1 q1 t1
  ·exact ftOne (by decide) m2 g2 d2 q2 t2
 case gi=>
  show ∃ t,mg p.1=some (.int p.2 t)
  have:=k7a p hp
  rw [← em] at this
  unfold vIsO at this
  split at this
  ·rename_i v e
   rw [e]
   cases v<;>first|exact ffE this|skip
   have:=eq_of_beq (show (_==_)=true from this)
   subst this
   exact ⟨_,rfl⟩
  ·cases this
 case gs=>
  show ∃ t,mg p.1=some (.str p.2 t)
  have:=k7b p hp
  rw [← em] at this
  unfold vIsO at this
  split at this
  ·rename_i v e
   rw [e]
   cases v<;>first|exact ffE this|skip
   have:=eq_of_beq (show (_==_)=true from this)
   subst this
   exact ⟨_,rfl⟩
  ·cases this
 case bl=>
  have:=k7c x hx
  rw [← em] at this
  exact Option.isNone_iff_eq_none.mp this
 case cl=>
  obtain ⟨x,y⟩:=Bool.and_eq_true_iff.mp (k1c i hi)
  rw [← em] at x
  refine ⟨(?_:mg _=_),y⟩
  unfold isRef at x
  split at x
  ·rename_i e
   rw [e,eq_of_beq x]
  ·cases x
 case mt=>
  have e:mtTab=mtA.map (·.1):=by decide
  rw [e] at hp
  obtain ⟨q,hq,rfl⟩:=List.mem_map.mp hp
  obtain ⟨x,y⟩:=Bool.and_eq_true_iff.mp (k3a q hq)
  exact ⟨q.2,x,fnI y (kP1 q hq)⟩
 case mo=>
  obtain ⟨o,fd,e,d,cr,p1,p2,p3,p4,p5,p6,p7⟩:=fnOk_of k3c kP4
  refine ⟨moA,fd.qualname,fd.code,k3b,o,fd,hh _ _ e (fn_ne d),d,code_to hh cr,p1,p2,p3,p4,p5,p6,?_,rfl,rfl⟩
  unfold isNone at p7
  split at p7
  ·assumption
  ·cases p7
 case ini=>
  have e:iniIdx=inA.map (·.1):=by decide
  rw [e] at hi
  obtain ⟨q,hq,rfl⟩:=List.mem_map.mp hi
  obtain ⟨x,y⟩:=Bool.and_eq_true_iff.mp (k4a q hq)
  exact ⟨q.2,x,fnI y (kP2 q hq)⟩
 case inD=>
  have e:indTab=idA.map (·.1):=rfl
  rw [e] at hp
  obtain ⟨q,hq,rfl⟩:=List.mem_map.mp hp
  obtain ⟨x,y⟩:=Bool.and_eq_true_iff.mp (k4b q hq)
  obtain ⟨o,fd,e,d,cr,p1,p2,p3,p4,p5,p6,p7⟩:=fnOk_of y (kP3 q hq)
  unfold dflOk at p7
  cases hdv:fd.defaults<;>rw [hdv] at p7<;>first|exact ffE p7|skip
  rename_i Tt
  dsimp only at p7
  cases hg:h0.get? Tt with
  | none=>rw [hg] at p7;cases p7
  | some ot=>
   rw [hg] at p7
   obtain ⟨tcls,tdict,tdata,tslots⟩:=ot
   cases tdata<;>first|exact ffE p7|skip
   rename_i items kk
   exact ⟨q.2,x,o,fd,Tt,_,items,kk,hh _ _ e (fn_ne d),d,code_to hh cr,p1,p2,p3,p4,p5,p6,hdv,hh _ _ hg (fun q=>by cases q),rfl,fun F=>vsAre_vl p7⟩
end
end
section
set_option maxHeartbeats 0
noncomputable def oQ (l:List Value):Obj:=⟨.type "tuple",none,.seq ⟨l⟩ 0,⟨[]⟩⟩
noncomputable def oV (c:Value) (l:List Value):Obj:=⟨c,none,.fields ⟨l⟩,⟨[]⟩⟩
noncomputable def oF (l:List (Option Value)):Obj:=⟨.type "frame",none,.plain,⟨l⟩⟩
noncomputable def oD (P:Params) (l:List (Str × Nat × Value)) (n:Nat):Obj:=⟨.type "dict",none,.dict ⟨l.map fun e=>⟨PyData.keyHash P e.1,.str e.1 e.2.1,e.2.2⟩⟩ n,⟨[]⟩⟩
noncomputable def toks (t:Nat):List Str→List Value
 | []=>[]
 | x::l=>.str x t::toks (t+1) l
noncomputable def fnO (c:Value) (s:Stmt) (q:Str) (g:Addr) (df md cd:Value) (bl:Addr):Obj:=⟨c,none,.func { name:=nmS s,qualname:=q,params:=prS s,body:=.stmts (bdS s),scope:=scS s,globals:=g,closure:=[],defaults:=df,kwdefaults:=.none,pyModule:=md,code:=cd,builtins:=bl },⟨[]⟩⟩
noncomputable def cdO (n q:Str) (t ln ar fl:Nat) (a:Addr) (f:Bool) (b:Addr) (r:List Value) (t':Nat):Obj:=
 oV (.type "code") ([.str n t,.str q (t+1),.str "/claim/cut.py" (t+2),.int ln 0,.int ar 0,.int 0 0,.int 0 0,.int fl 0,.ref a,.bool f,.int 181 0,.ref b,.none]++r++[.int t' 0,.int ln 0,.str "/claim/cut.py" (t'+1)])
noncomputable def lnS (s:Stmt):Nat:=match posS s with|⟨l,_,_,_⟩=>l
noncomputable def locS (s:Stmt):List Str:=(scS s).names.filterMap fun x=>match x.2 with|.local=>some x.1|.cell=>if (prS s).args.any (fun a=>a.arg==x.1) then some x.1 else none|_=>none
noncomputable def celSt (s:Stmt):List Str:=(scS s).names.filterMap fun x=>match x.2 with|.cell=>some x.1|_=>none
noncomputable def g7 (s:Stmt) (q:Str) (b t:Nat) (df md:Value) (bl:Addr):List Obj:=
 [oQ [],oV .none [],oQ (toks (t+3) (locS s)),oQ (toks (t+3+(locS s).length) (celSt s)),fnO .none s q 0 .none .none .none 0,
  cdO (nmS s) q t (lnS s) (prS s).args.length 3 b true (b+1) [.ref (b+2),.ref (b+3),.ref (b+4)] (t+3+(locS s).length+(celSt s).length),
  fnO (.type "function") s q 3 df md (.ref (b+5)) bl]
noncomputable def g5 (s:Stmt) (q:Str) (b t:Nat) (df md:Value) (bl:Addr):List Obj:=
 [oQ [],oV .none [],fnO .none s q 0 .none .none .none 0,
  cdO (nmS s) q t (lnS s) (prS s).args.length 3 b true (b+1) [.none,.none,.ref (b+2)] (t+3),
  fnO (.type "function") s q 3 df md (.ref (b+3)) bl]
noncomputable def oC (n:Str) (b m:List Value) (d:Addr) (sub:List Value) (sl:List (Option Value)):Obj:=⟨.type "type",none,.cls { name:=n,bases:=b,mro:=m,ns:=d,qualname:=n,subclasses:=sub },⟨sl⟩⟩
noncomputable def md0:Value:=.str "__main__" 164
noncomputable def md1:Value:=.str "octetmint.basics" 194
noncomputable def md2:Value:=.str "octetmint.forms" 324
noncomputable def md3:Value:=.str "octetmint.flags" 334
noncomputable def md4:Value:=.str "octetmint.registers" 557
noncomputable def md5:Value:=.str "octetmint.machine" 669
noncomputable def md6:Value:=.str "octetmint.decoder" 1005
noncomputable def md7:Value:=.str "octetmint.flow" 1049
noncomputable def md8:Value:=.str "octetmint.deeds" 1059
noncomputable def md9:Value:=.str "octetmint.operands" 1169
noncomputable def md10:Value:=.str "octetmint.rotates" 1501
noncomputable def md11:Value:=.str "octetmint.transfers" 1555
noncomputable def md12:Value:=.str "law_nn0083_01" 1650
noncomputable def e3 (x:Str) (t:Nat) (v:Value):Str × Nat × Value:=(x,t,v)
noncomputable def p2 (a b:Nat):Nat × Addr:=(a,b)
noncomputable def mainE:List (Str × Nat × Value):=[e3 "__doc__" 166 (.none),e3 "__package__" 167 (.none),e3 "__loader__" 168 (.builtin "__main__.__loader__#opaque"),e3 "__spec__" 169 (.none),e3 "__annotations__" 170 (.ref 6),e3 "__builtins__" 171 (.ref 4),e3 "__file__" 173 (.str "/claim/cut.py" 172),e3 "__cached__" 174 (.none),e3 "_wall" 193 (.ref 21),e3 "MintError" 233 (.ref 46),e3 "OperandError" 249 (.ref 59),e3 "MachineError" 265 (.ref 71),e3 "mask" 272 (.ref 80),e3 "wrap" 280 (.ref 87),e3 "signed" 289 (.ref 94),e3 "fits_signed" 298 (.ref 101),e3 "bit" 306 (.ref 108),e3 "ones" 316 (.ref 115),e3 "parity" 323 (.ref 122),e3 "CONDITIONS" 327 (.str "o no b ae e ne be a s ns p np l ge le g" 326),e3 "condition_names" 333 (.ref 129),e3 "CF" 337 (.int 0 336),e3 "PF" 339 (.int 2 338),e3 "AF" 341 (.int 4 340),e3 "ZF" 343 (.int 6 342),e3 "SF" 345 (.int 7 344),e3 "DF" 347 (.int 10 346),e3 "OF" 349 (.int 11 348),e3 "FLAG_NAMES" 351 (.str "cf pf af zf sf of df" 350),e3 "Flags" 451 (.ref 202),e3 "condition_number" 458 (.ref 213),e3 "holds_number" 468 (.ref 220),e3 "holds" 476 (.ref 227),e3 "szp" 486 (.ref 234),e3 "add_flags" 501 (.ref 241),e3 "sub_flags" 516 (.ref 248),e3 "logic_flags" 525 (.ref 255),e3 "inc_flags" 536 (.ref 262),e3 "dec_flags" 547 (.ref 269),e3 "neg_flags" 556 (.ref 276),e3 "NAMES_8" 560 (.str "al cl dl bl spl bpl sil dil" 559),e3 "NAMES_16" 562 (.str "ax cx dx bx sp bp si di" 561),e3 "NAMES_32" 564 (.str "eax ecx edx ebx esp ebp esi edi" 563),e3 "NAMES_64" 566 (.str "rax rcx rdx rbx rsp rbp rsi rdi" 565),e3 "HIGH_NAMES" 568 (.str "ah ch dh bh" 567),e3 "Register" 638 (.ref 328),e3 "early_names" 645 (.ref 339),e3 "late_ending" 652 (.ref 346),e3 "gpr" 661 (.ref 353),e3 "high" 668 (.ref 360),e3 "STACK" 672 (.int 4 671),e3 "TRAPS" 674 (.str "ud2 int int3 syscall cpuid" 673),e3 "Memory" 795 (.ref 450),e3 "joined" 804 (.ref 461),e3 "State" 956 (.ref 567),e3 "done" 966 (.ref 578),e3 "proceed" 976 (.ref 585),e3 "need_running" 983 (.ref 592),e3 "step_row" 993 (.ref 599),e3 "go" 1004 (.ref 606),e3 "Decoded" 1048 (.ref 630),e3 "condition_of" 1058 (.ref 641),e3 "AH_NUMBER" 1062 (.int 4 1061),e3 "combined" 1073 (.ref 648),e3 "two_deed" 1087 (.ref 655),e3 "one_deed" 1099 (.ref 662),e3 "xadd_deed" 1113 (.ref 669),e3 "cmpxchg_deed" 1128 (.ref 676),e3 "flag_deed" 1137 (.ref 683),e3 "set_deed" 1146 (.ref 690),e3 "cmov_deed" 1159 (.ref 697),e3 "arith_deed" 1168 (.ref 704),e3 "Operand" 1220 (.ref 742),e3 "Reg" 1259 (.ref 777),e3 "Imm" 1301 (.ref 811),e3 "Rel" 1351 (.ref 852),e3 "Mem" 1427 (.ref 905),e3 "Instruction" 1500 (.ref 958),e3 "product" 1514 (.ref 969),e3 "clear_flags" 1521 (.ref 976),e3 "lay_wide" 1529 (.ref 983),e3 "put_halves" 1539 (.ref 990),e3 "product_deed" 1554 (.ref 997),e3 "RCX" 1558 (.int 1 1557),e3 "RSP" 1560 (.int 4 1559),e3 "RBP" 1562 (.int 5 1561),e3 "exchange" 1574 (.ref 1004),e3 "move_deed" 1586 (.ref 1011),e3 "push_operand" 1596 (.ref 1018),e3 "pop_operand" 1607 (.ref 1025),e3 "stack_deed" 1616 (.ref 1032),e3 "target_of" 1624 (.ref 1039),e3 "count_down" 1631 (.ref 1046),e3 "is_taken" 1639 (.ref 1053),e3 "jump_deed" 1649 (.ref 1060),e3 "_law_pen" 1657 (.ref 1065),e3 "_law_draw" 1670 (.ref 1072),e3 "_law_pick" 1678 (.ref 1079),e3 "_law_leaf" 1686 (.ref 1086),e3 "_law_value" 1698 (.ref 1093),e3 "_law_test" 1707 (.ref 1100),e3 "_law_set" 1715 (.ref 1107),e3 "_law_statement" 1721 (.ref 1112),e3 "_law_signed" 1728 (.ref 1119),e3 "_law_holds" 1737 (.ref 1126),e3 "_law_told" 1743 (.ref 1131),e3 "_law_do" 1758 (.ref 1138),e3 "_law_r" 1765 (.ref 1145),e3 "_law_at" 1773 (.ref 1152),e3 "_law_row" 1782 (.ref 1159),e3 "_law_jump" 1791 (.ref 1166),e3 "_law_mark" 1798 (.ref 1173),e3 "_law_both" 1808 (.ref 1180),e3 "_law_deed" 1818 (.ref 1187),e3 "_law_made" 1828 (.ref 1194),e3 "_law_asked" 1840 (.ref 1201),e3 "_law_laid" 1856 (.ref 1208),e3 "_law_compiled" 1873 (.ref 1215),e3 "_law_program" 1889 (.ref 1222),e3 "_law_products" 1897 (.ref 1229),e3 "law" 1903 (.ref 1234)]
noncomputable def tabL:List (Nat × Addr):=[p2 1 20,p2 5 27,p2 16 55,p2 18 67,p2 20 79,p2 22 86,p2 24 93,p2 29 100,p2 32 107,p2 34 114,p2 41 121,p2 45 128,p2 56 135,p2 109 212,p2 113 219,p2 132 226,p2 134 233,p2 140 240,p2 148 247,p2 156 254,p2 161 261,p2 166 268,p2 171 275,p2 179 282,p2 201 338,p2 211 345,p2 219 352,p2 226 359,p2 233 366,p2 275 460,p2 279 467,p2 375 577,p2 385 584,p2 393 591,p2 396 598,p2 403 605,p2 412 612,p2 423 640,p2 430 647,p2 444 654,p2 451 661,p2 464 668,p2 475 675,p2 485 682,p2 501 689,p2 504 696,p2 509 703,p2 529 710,p2 542 752,p2 553 785,p2 565 819,p2 580 860,p2 608 913,p2 634 968,p2 642 975,p2 645 982,p2 649 989,p2 655 996,p2 673 1003,p2 680 1010,p2 696 1017,p2 700 1024,p2 705 1031,p2 721 1038,p2 727 1045,p2 730 1052,p2 742 1059,p2 760 1064,p2 762 1071,p2 779 1078,p2 781 1085,p2 785 1092,p2 796 1099,p2 799 1106,p2 801 1111,p2 808 1118,p2 810 1125,p2 814 1130,p2 834 1137,p2 845 1144,p2 847 1151,p2 849 1158,p2 851 1165,p2 853 1172,p2 856 1179,p2 862 1186,p2 878 1193,p2 897 1200,p2 907 1207,p2 927 1214,p2 947 1221,p2 961 1228,p2 966 1233]
noncomputable def tabE (k:Nat):Obj:=oV .none ((tabL.take k).flatMap fun p=>[.int p.1 0,.int 0 0,.ref p.2])
noncomputable def ob0 (P:Params) (x y:Nat):List (List Obj):=[[oQ [],tabE x,oV (.type "code") [.str "<module>" 182,.str "<module>" 183,.str "/claim/cut.py" 184,.int 1 0,.int 0 0,.int 0 0,.int 0 0,.int 0 0,.ref 11,.bool false,.int 181 0,.ref 12,.none,.none,.none,.none,.int 185 0,.int 1 0,.str "/claim/cut.py" 186],oF [some (.ref 13),some (.ref 3),some (.ref 3),none,some (.str "__main__" 164),none,some (.ref 0)]],g7 (st 0) "_wall" 15 187 (.none) md0 0,[oQ [.type "Exception"],oV (.type "builtin_function_or_method") [.builtin "type.__prepare__",.type "type"],oD P [e3 "__module__" 203 (.str "octetmint.basics" 194),e3 "__qualname__" 205 (.str "MintError" 204),e3 "__firstlineno__" 207 (.int 5 206),e3 "__init__" 216 (.ref 36),e3 "told" 223 (.ref 43),e3 "__static_attributes__" 226 (.ref 44)] 6,oQ [],oV (.none) [.int 7 0,.int 4 0,.ref 35,.int 12 0,.int 4 0,.ref 42],oV (.type "code") [.str "MintError" 198,.str "MintError" 199,.str "/claim/cut.py" 200,.int 5 0,.int 0 0,.int 0 0,.int 0 0,.int 0 0,.ref 25,.bool false,.int 181 0,.ref 26,.none,.none,.none,.none,.int 201 0,.int 5 0,.str "/claim/cut.py" 202],oF [some (.ref 27),some (.ref 3),some (.ref 24),none,some (.str "octetmint.basics" 194),none,some (.ref 0)],oQ [.none]],g7 (mth 2 0) "MintError.__init__" 30 208 (.ref 29) md1 0,g7 (mth 2 1) "MintError.told" 37 217 (.none) md1 0,[oQ [.str "at" 224,.str "what" 225],oD P [e3 "__module__" 203 (md1),e3 "__firstlineno__" 207 (.int 5 206),e3 "__init__" 216 (.ref 36),e3 "told" 223 (.ref 43),e3 "__static_attributes__" 226 (.ref 44),e3 "__weakref__" 228 (.ref 47),e3 "__doc__" 229 (.none)] 3,oC "MintError" [.type "Exception"] [.ref 46,.type "Exception",.type "BaseException",.type "object"] 45 [.ref 59,.ref 71] [some (.ref 22),none,some (.str "MintError" 196),some (.str "MintError" 204),some (.builtin "Exception.__new__"),some (.bool true)],oV (.type "getset_descriptor") [.str "__weakref__" 227,.ref 46,.builtin "ExceptionGroup.__weakref__",.none],oV (.type "super") [.ref 46,.ref 46,.ref 46],oV (.type "builtin_function_or_method") [.builtin "object.__init_subclass__",.ref 46],oQ [.ref 46],oV (.type "builtin_function_or_method") [.builtin "type.__prepare__",.type "type"],oD P [e3 "__module__" 241 (md1),e3 "__qualname__" 243 (.str "OperandError" 242),e3 "__firstlineno__" 245 (.int 16 244),e3 "__static_attributes__" 246 (.ref 57)] 4,oQ [],oV (.none) [],oV (.type "code") [.str "OperandError" 236,.str "OperandError" 237,.str "/claim/cut.py" 238,.int 16 0,.int 0 0,.int 0 0,.int 0 0,.int 0 0,.ref 53,.bool false,.int 181 0,.ref 54,.none,.none,.none,.none,.int 239 0,.int 16 0,.str "/claim/cut.py" 240],oF [some (.ref 55),some (.ref 3),some (.ref 52),none,some (md1),none,some (.ref 0)],oQ [],oD P [e3 "__module__" 241 (md1),e3 "__firstlineno__" 245 (.int 16 244),e3 "__static_attributes__" 246 (.ref 57),e3 "__doc__" 247 (.none)] 2,oC "OperandError" [.ref 46] [.ref 59,.ref 46,.type "Exception",.type "BaseException",.type "object"] 58 [] [some (.ref 50),none,some (.str "OperandError" 234),some (.str "OperandError" 242),some (.builtin "Exception.__new__"),some (.bool true)],oV (.type "super") [.ref 59,.ref 59,.ref 59],oV (.type "builtin_function_or_method") [.builtin "object.__init_subclass__",.ref 59],oQ [.ref 46],oV (.type "builtin_function_or_method") [.builtin "type.__prepare__",.type "type"],oD P [e3 "__module__" 257 (md1),e3 "__qualname__" 259 (.str "MachineError" 258),e3 "__firstlineno__" 261 (.int 18 260),e3 "__static_attributes__" 262 (.ref 69)] 4,oQ [],oV (.none) [],oV (.type "code") [.str "MachineError" 252,.str "MachineError" 253,.str "/claim/cut.py" 254,.int 18 0,.int 0 0,.int 0 0,.int 0 0,.int 0 0,.ref 65,.bool false,.int 181 0,.ref 66,.none,.none,.none,.none,.int 255 0,.int 18 0,.str "/claim/cut.py" 256],oF [some (.ref 67),some (.ref 3),some (.ref 64),none,some (md1),none,some (.ref 0)],oQ [],oD P [e3 "__module__" 257 (md1),e3 "__firstlineno__" 261 (.int 18 260),e3 "__static_attributes__" 262 (.ref 69),e3 "__doc__" 263 (.none)] 2,oC "MachineError" [.ref 46] [.ref 71,.ref 46,.type "Exception",.type "BaseException",.type "object"] 70 [] [some (.ref 62),none,some (.str "MachineError" 250),some (.str "MachineError" 258),some (.builtin "Exception.__new__"),some (.bool true)],oV (.type "super") [.ref 71,.ref 71,.ref 71],oV (.type "builtin_function_or_method") [.builtin "object.__init_subclass__",.ref 71]],g7 (st 5) "mask" 74 266 (.none) md1 0,g7 (st 6) "wrap" 81 273 (.none) md1 0,g7 (st 7) "signed" 88 281 (.none) md1 0,g7 (st 8) "fits_signed" 95 290 (.none) md1 0,g7 (st 9) "bit" 102 299 (.none) md1 0,g7 (st 10) "ones" 109 307 (.none) md1 0,g7 (st 11) "parity" 116 317 (.none) md1 0,g7 (st 14) "condition_names" 123 328 (.none) md2 0,[oQ [],oV (.type "builtin_function_or_method") [.builtin "type.__prepare__",.type "type"],oD P [e3 "__module__" 359 (.str "octetmint.flags" 334),e3 "__qualname__" 361 (.str "Flags" 360),e3 "__firstlineno__" 363 (.int 56 362),e3 "__init__" 370 (.ref 143),e3 "told" 377 (.ref 150),e3 "pack" 385 (.ref 157),e3 "unpack" 393 (.ref 164),e3 "unpack_low" 401 (.ref 171),e3 "copy" 408 (.ref 178),e3 "get" 417 (.ref 185),e3 "put" 429 (.ref 192),e3 "show" 436 (.ref 199),e3 "__static_attributes__" 444 (.ref 200)] 13,oQ [],oV (.none) [.int 58 0,.int 4 0,.ref 142,.int 67 0,.int 4 0,.ref 149,.int 70 0,.int 4 0,.ref 156,.int 74 0,.int 4 0,.ref 163,.int 83 0,.int 4 0,.ref 170,.int 90 0,.int 4 0,.ref 177,.int 93 0,.int 4 0,.ref 184,.int 99 0,.int 4 0,.ref 191,.int 107 0,.int 4 0,.ref 198],oV (.type "code") [.str "Flags" 354,.str "Flags" 355,.str "/claim/cut.py" 356,.int 56 0,.int 0 0,.int 0 0,.int 0 0,.int 0 0,.ref 133,.bool false,.int 181 0,.ref 134,.none,.none,.none,.none,.int 357 0,.int 56 0,.str "/claim/cut.py" 358],oF [some (.ref 135),some (.ref 3),some (.ref 132),none,some (.str "octetmint.flags" 334),none,some (.ref 0)]]]
noncomputable def ob1 (P:Params) (x y:Nat):List (List Obj):=[g7 (mth 24 0) "Flags.__init__" 137 364 (.none) md3 0,g7 (mth 24 1) "Flags.told" 144 371 (.none) md3 0,g7 (mth 24 2) "Flags.pack" 151 378 (.none) md3 0,g7 (mth 24 3) "Flags.unpack" 158 386 (.none) md3 0,g7 (mth 24 4) "Flags.unpack_low" 165 394 (.none) md3 0,g7 (mth 24 5) "Flags.copy" 172 402 (.none) md3 0,g7 (mth 24 6) "Flags.get" 179 409 (.none) md3 0,g7 (mth 24 7) "Flags.put" 186 418 (.none) md3 0,g7 (mth 24 8) "Flags.show" 193 430 (.none) md3 0,[oQ [.str "af" 437,.str "cf" 438,.str "df" 439,.str "of" 440,.str "pf" 441,.str "sf" 442,.str "zf" 443],oD P [e3 "__module__" 359 (md3),e3 "__firstlineno__" 363 (.int 56 362),e3 "__init__" 370 (.ref 143),e3 "told" 377 (.ref 150),e3 "pack" 385 (.ref 157),e3 "unpack" 393 (.ref 164),e3 "unpack_low" 401 (.ref 171),e3 "copy" 408 (.ref 178),e3 "get" 417 (.ref 185),e3 "put" 429 (.ref 192),e3 "show" 436 (.ref 199),e3 "__static_attributes__" 444 (.ref 200),e3 "__dict__" 446 (.ref 203),e3 "__weakref__" 448 (.ref 204),e3 "__doc__" 449 (.none)] 4,oC "Flags" [.type "object"] [.ref 202,.type "object"] 201 [] [none,none,some (.str "Flags" 352),some (.str "Flags" 360),some (.builtin "object.__new__"),some (.bool true)],oV (.type "getset_descriptor") [.str "__dict__" 445,.ref 202,.builtin "function.__dict__",.builtin "function.__dict__#set"],oV (.type "getset_descriptor") [.str "__weakref__" 447,.ref 202,.builtin "ExceptionGroup.__weakref__",.none],oV (.type "super") [.ref 202,.ref 202,.ref 202],oV (.type "builtin_function_or_method") [.builtin "object.__init_subclass__",.ref 202]],g7 (st 25) "condition_number" 207 452 (.none) md3 0,g7 (st 26) "holds_number" 214 459 (.none) md3 0,g7 (st 27) "holds" 221 469 (.none) md3 0,g7 (st 28) "szp" 228 477 (.none) md3 0,g7 (st 29) "add_flags" 235 487 (.none) md3 0,g7 (st 30) "sub_flags" 242 502 (.none) md3 0,g7 (st 31) "logic_flags" 249 517 (.none) md3 0,g7 (st 32) "inc_flags" 256 526 (.none) md3 0,g7 (st 33) "dec_flags" 263 537 (.none) md3 0,g7 (st 34) "neg_flags" 270 548 (.none) md3 0,[oQ [],oV (.type "builtin_function_or_method") [.builtin "type.__prepare__",.type "type"],oD P [e3 "__module__" 576 (.str "octetmint.registers" 557),e3 "__qualname__" 578 (.str "Register" 577),e3 "__firstlineno__" 580 (.int 179 579),e3 "__init__" 591 (.ref 290),e3 "code" 598 (.ref 297),e3 "is_extended" 605 (.ref 304),e3 "is_high" 612 (.ref 311),e3 "needs_rex" 619 (.ref 318),e3 "told" 626 (.ref 325),e3 "__static_attributes__" 631 (.ref 326)] 10,oQ [],oV (.none) [.int 181 0,.int 4 0,.ref 289,.int 187 0,.int 4 0,.ref 296,.int 190 0,.int 4 0,.ref 303,.int 193 0,.int 4 0,.ref 310,.int 196 0,.int 4 0,.ref 317,.int 199 0,.int 4 0,.ref 324],oV (.type "code") [.str "Register" 571,.str "Register" 572,.str "/claim/cut.py" 573,.int 179 0,.int 0 0,.int 0 0,.int 0 0,.int 0 0,.ref 280,.bool false,.int 181 0,.ref 281,.none,.none,.none,.none,.int 574 0,.int 179 0,.str "/claim/cut.py" 575],oF [some (.ref 282),some (.ref 3),some (.ref 279),none,some (.str "octetmint.registers" 557),none,some (.ref 0)]],g7 (mth 41 0) "Register.__init__" 284 581 (.none) md4 0,g7 (mth 41 1) "Register.code" 291 592 (.none) md4 0,g7 (mth 41 2) "Register.is_extended" 298 599 (.none) md4 0,g7 (mth 41 3) "Register.is_high" 305 606 (.none) md4 0,g7 (mth 41 4) "Register.needs_rex" 312 613 (.none) md4 0,g7 (mth 41 5) "Register.told" 319 620 (.none) md4 0,[oQ [.str "kind" 627,.str "name" 628,.str "number" 629,.str "size" 630],oD P [e3 "__module__" 576 (md4),e3 "__firstlineno__" 580 (.int 179 579),e3 "__init__" 591 (.ref 290),e3 "code" 598 (.ref 297),e3 "is_extended" 605 (.ref 304),e3 "is_high" 612 (.ref 311),e3 "needs_rex" 619 (.ref 318),e3 "told" 626 (.ref 325),e3 "__static_attributes__" 631 (.ref 326),e3 "__dict__" 633 (.ref 329),e3 "__weakref__" 635 (.ref 330),e3 "__doc__" 636 (.none)] 4,oC "Register" [.type "object"] [.ref 328,.type "object"] 327 [] [none,none,some (.str "Register" 569),some (.str "Register" 577),some (.builtin "object.__new__"),some (.bool true)],oV (.type "getset_descriptor") [.str "__dict__" 632,.ref 328,.builtin "function.__dict__",.builtin "function.__dict__#set"],oV (.type "getset_descriptor") [.str "__weakref__" 634,.ref 328,.builtin "ExceptionGroup.__weakref__",.none],oV (.type "super") [.ref 328,.ref 328,.ref 328],oV (.type "builtin_function_or_method") [.builtin "object.__init_subclass__",.ref 328]],g7 (st 42) "early_names" 333 639 (.none) md4 0,g7 (st 43) "late_ending" 340 646 (.none) md4 0,g7 (st 44) "gpr" 347 653 (.none) md4 0,g7 (st 45) "high" 354 662 (.none) md4 0,[oQ [],oV (.type "builtin_function_or_method") [.builtin "type.__prepare__",.type "type"],oD P [e3 "__module__" 682 (.str "octetmint.machine" 669),e3 "__qualname__" 684 (.str "Memory" 683),e3 "__firstlineno__" 686 (.int 233 685),e3 "__init__" 693 (.ref 374),e3 "octet" 701 (.ref 381),e3 "set_octet" 710 (.ref 388),e3 "read" 721 (.ref 395),e3 "write" 732 (.ref 402),e3 "load" 743 (.ref 409),e3 "octets" 749 (.ref 414),e3 "written" 755 (.ref 419),e3 "spans" 762 (.ref 426),e3 "find" 772 (.ref 433),e3 "copy" 779 (.ref 440),e3 "told" 786 (.ref 447),e3 "__static_attributes__" 788 (.ref 448)] 16,oQ [],oV (.none) [.int 235 0,.int 4 0,.ref 373,.int 238 0,.int 4 0,.ref 380,.int 241 0,.int 4 0,.ref 387,.int 244 0,.int 4 0,.ref 394,.int 250 0,.int 4 0,.ref 401,.int 254 0,.int 4 0,.ref 408,.int 258 0,.int 4 0,.ref 413,.int 261 0,.int 4 0,.ref 418,.int 264 0,.int 4 0,.ref 425,.int 267 0,.int 4 0,.ref 432,.int 270 0,.int 4 0,.ref 439,.int 273 0,.int 4 0,.ref 446],oV (.type "code") [.str "Memory" 677,.str "Memory" 678,.str "/claim/cut.py" 679,.int 233 0,.int 0 0,.int 0 0,.int 0 0,.int 0 0,.ref 364,.bool false,.int 181 0,.ref 365,.none,.none,.none,.none,.int 680 0,.int 233 0,.str "/claim/cut.py" 681],oF [some (.ref 366),some (.ref 3),some (.ref 363),none,some (.str "octetmint.machine" 669),none,some (.ref 0)]],g7 (mth 49 0) "Memory.__init__" 368 687 (.none) md5 0]
noncomputable def ob2 (P:Params) (x y:Nat):List (List Obj):=[g7 (mth 49 1) "Memory.octet" 375 694 (.none) md5 0,g7 (mth 49 2) "Memory.set_octet" 382 702 (.none) md5 0,g7 (mth 49 3) "Memory.read" 389 711 (.none) md5 0,g7 (mth 49 4) "Memory.write" 396 722 (.none) md5 0,g7 (mth 49 5) "Memory.load" 403 733 (.none) md5 0,g5 (mth 49 6) "Memory.octets" 410 744 (.none) md5 0,g5 (mth 49 7) "Memory.written" 415 750 (.none) md5 0,g7 (mth 49 8) "Memory.spans" 420 756 (.none) md5 0,g7 (mth 49 9) "Memory.find" 427 763 (.none) md5 0,g7 (mth 49 10) "Memory.copy" 434 773 (.none) md5 0,g7 (mth 49 11) "Memory.told" 441 780 (.none) md5 0,[oQ [.str "held" 787],oD P [e3 "__module__" 682 (md5),e3 "__firstlineno__" 686 (.int 233 685),e3 "__init__" 693 (.ref 374),e3 "octet" 701 (.ref 381),e3 "set_octet" 710 (.ref 388),e3 "read" 721 (.ref 395),e3 "write" 732 (.ref 402),e3 "load" 743 (.ref 409),e3 "octets" 749 (.ref 414),e3 "written" 755 (.ref 419),e3 "spans" 762 (.ref 426),e3 "find" 772 (.ref 433),e3 "copy" 779 (.ref 440),e3 "told" 786 (.ref 447),e3 "__static_attributes__" 788 (.ref 448),e3 "__dict__" 790 (.ref 451),e3 "__weakref__" 792 (.ref 452),e3 "__doc__" 793 (.none)] 4,oC "Memory" [.type "object"] [.ref 450,.type "object"] 449 [] [none,none,some (.str "Memory" 675),some (.str "Memory" 683),some (.builtin "object.__new__"),some (.bool true)],oV (.type "getset_descriptor") [.str "__dict__" 789,.ref 450,.builtin "function.__dict__",.builtin "function.__dict__#set"],oV (.type "getset_descriptor") [.str "__weakref__" 791,.ref 450,.builtin "ExceptionGroup.__weakref__",.none],oV (.type "super") [.ref 450,.ref 450,.ref 450],oV (.type "builtin_function_or_method") [.builtin "object.__init_subclass__",.ref 450]],g7 (st 50) "joined" 455 796 (.none) md5 0,[oQ [],oV (.type "builtin_function_or_method") [.builtin "type.__prepare__",.type "type"],oD P [e3 "__module__" 812 (md5),e3 "__qualname__" 814 (.str "State" 813),e3 "__firstlineno__" 816 (.int 279 815),e3 "__init__" 824 (.ref 475),e3 "get" 832 (.ref 482),e3 "put" 842 (.ref 489),e3 "put_low" 853 (.ref 496),e3 "registers" 859 (.ref 501),e3 "offset" 868 (.ref 508),e3 "place" 877 (.ref 515),e3 "size_of" 887 (.ref 522),e3 "read" 896 (.ref 529),e3 "write" 906 (.ref 536),e3 "push" 915 (.ref 543),e3 "pop" 924 (.ref 550),e3 "told" 932 (.ref 557),e3 "copy" 939 (.ref 564),e3 "__static_attributes__" 949 (.ref 565)] 18,oQ [],oV (.none) [.int 281 0,.int 4 0,.ref 474,.int 292 0,.int 4 0,.ref 481,.int 303 0,.int 4 0,.ref 488,.int 315 0,.int 4 0,.ref 495,.int 322 0,.int 4 0,.ref 500,.int 325 0,.int 4 0,.ref 507,.int 333 0,.int 4 0,.ref 514,.int 337 0,.int 4 0,.ref 521,.int 345 0,.int 4 0,.ref 528,.int 352 0,.int 4 0,.ref 535,.int 360 0,.int 4 0,.ref 542,.int 364 0,.int 4 0,.ref 549,.int 369 0,.int 4 0,.ref 556,.int 373 0,.int 4 0,.ref 563],oV (.type "code") [.str "State" 807,.str "State" 808,.str "/claim/cut.py" 809,.int 279 0,.int 0 0,.int 0 0,.int 0 0,.int 0 0,.ref 465,.bool false,.int 181 0,.ref 466,.none,.none,.none,.none,.int 810 0,.int 279 0,.str "/claim/cut.py" 811],oF [some (.ref 467),some (.ref 3),some (.ref 464),none,some (md5),none,some (.ref 0)]],g7 (mth 51 0) "State.__init__" 469 817 (.none) md5 0,g7 (mth 51 1) "State.get" 476 825 (.none) md5 0,g7 (mth 51 2) "State.put" 483 833 (.none) md5 0,g7 (mth 51 3) "State.put_low" 490 843 (.none) md5 0,g5 (mth 51 4) "State.registers" 497 854 (.none) md5 0,g7 (mth 51 5) "State.offset" 502 860 (.none) md5 0,g7 (mth 51 6) "State.place" 509 869 (.none) md5 0,g7 (mth 51 7) "State.size_of" 516 878 (.none) md5 0,g7 (mth 51 8) "State.read" 523 888 (.none) md5 0,g7 (mth 51 9) "State.write" 530 897 (.none) md5 0,g7 (mth 51 10) "State.push" 537 907 (.none) md5 0,g7 (mth 51 11) "State.pop" 544 916 (.none) md5 0,g7 (mth 51 12) "State.told" 551 925 (.none) md5 0,g7 (mth 51 13) "State.copy" 558 933 (.none) md5 0,[oQ [.str "begin" 940,.str "flags" 941,.str "is_halted" 942,.str "iset" 943,.str "memory" 944,.str "regs" 945,.str "rip" 946,.str "segments" 947,.str "xmm" 948],oD P [e3 "__module__" 812 (md5),e3 "__firstlineno__" 816 (.int 279 815),e3 "__init__" 824 (.ref 475),e3 "get" 832 (.ref 482),e3 "put" 842 (.ref 489),e3 "put_low" 853 (.ref 496),e3 "registers" 859 (.ref 501),e3 "offset" 868 (.ref 508),e3 "place" 877 (.ref 515),e3 "size_of" 887 (.ref 522),e3 "read" 896 (.ref 529),e3 "write" 906 (.ref 536),e3 "push" 915 (.ref 543),e3 "pop" 924 (.ref 550),e3 "told" 932 (.ref 557),e3 "copy" 939 (.ref 564),e3 "__static_attributes__" 949 (.ref 565),e3 "__dict__" 951 (.ref 568),e3 "__weakref__" 953 (.ref 569),e3 "__doc__" 954 (.none)] 4,oC "State" [.type "object"] [.ref 567,.type "object"] 566 [] [none,none,some (.str "State" 805),some (.str "State" 813),some (.builtin "object.__new__"),some (.bool true)],oV (.type "getset_descriptor") [.str "__dict__" 950,.ref 567,.builtin "function.__dict__",.builtin "function.__dict__#set"],oV (.type "getset_descriptor") [.str "__weakref__" 952,.ref 567,.builtin "ExceptionGroup.__weakref__",.none],oV (.type "super") [.ref 567,.ref 567,.ref 567],oV (.type "builtin_function_or_method") [.builtin "object.__init_subclass__",.ref 567]],g7 (st 52) "done" 572 957 (.none) md5 0,g7 (st 53) "proceed" 579 967 (.none) md5 0,g7 (st 54) "need_running" 586 977 (.none) md5 0,g7 (st 55) "step_row" 593 984 (.none) md5 0,g7 (st 56) "go" 600 994 (.none) md5 0,[oQ [],oV (.type "builtin_function_or_method") [.builtin "type.__prepare__",.type "type"],oD P [e3 "__module__" 1014 (.str "octetmint.decoder" 1005),e3 "__qualname__" 1016 (.str "Decoded" 1015),e3 "__firstlineno__" 1018 (.int 412 1017),e3 "__init__" 1029 (.ref 620),e3 "told" 1036 (.ref 627),e3 "__static_attributes__" 1041 (.ref 628)] 6,oQ [],oV (.none) [.int 414 0,.int 4 0,.ref 619,.int 420 0,.int 4 0,.ref 626],oV (.type "code") [.str "Decoded" 1009,.str "Decoded" 1010,.str "/claim/cut.py" 1011,.int 412 0,.int 0 0,.int 0 0,.int 0 0,.int 0 0,.ref 610,.bool false,.int 181 0,.ref 611,.none,.none,.none,.none,.int 1012 0,.int 412 0,.str "/claim/cut.py" 1013],oF [some (.ref 612),some (.ref 3),some (.ref 609),none,some (.str "octetmint.decoder" 1005),none,some (.ref 0)]]]
noncomputable def ob3 (P:Params) (x y:Nat):List (List Obj):=[g7 (mth 58 0) "Decoded.__init__" 614 1019 (.none) md6 0,g7 (mth 58 1) "Decoded.told" 621 1030 (.none) md6 0,[oQ [.str "form" 1037,.str "instruction" 1038,.str "length" 1039,.str "prefixes" 1040],oD P [e3 "__module__" 1014 (md6),e3 "__firstlineno__" 1018 (.int 412 1017),e3 "__init__" 1029 (.ref 620),e3 "told" 1036 (.ref 627),e3 "__static_attributes__" 1041 (.ref 628),e3 "__dict__" 1043 (.ref 631),e3 "__weakref__" 1045 (.ref 632),e3 "__doc__" 1046 (.none)] 4,oC "Decoded" [.type "object"] [.ref 630,.type "object"] 629 [] [none,none,some (.str "Decoded" 1007),some (.str "Decoded" 1015),some (.builtin "object.__new__"),some (.bool true)],oV (.type "getset_descriptor") [.str "__dict__" 1042,.ref 630,.builtin "function.__dict__",.builtin "function.__dict__#set"],oV (.type "getset_descriptor") [.str "__weakref__" 1044,.ref 630,.builtin "ExceptionGroup.__weakref__",.none],oV (.type "super") [.ref 630,.ref 630,.ref 630],oV (.type "builtin_function_or_method") [.builtin "object.__init_subclass__",.ref 630]],g7 (st 60) "condition_of" 635 1051 (.none) md7 0,g7 (st 63) "combined" 642 1063 (.none) md8 0,g7 (st 64) "two_deed" 649 1074 (.none) md8 0,g7 (st 65) "one_deed" 656 1088 (.none) md8 0,g7 (st 66) "xadd_deed" 663 1100 (.none) md8 0,g7 (st 67) "cmpxchg_deed" 670 1114 (.none) md8 0,g7 (st 68) "flag_deed" 677 1129 (.none) md8 0,g7 (st 69) "set_deed" 684 1138 (.none) md8 0,g7 (st 70) "cmov_deed" 691 1147 (.none) md8 0,g7 (st 71) "arith_deed" 698 1160 (.none) md8 0,[oQ [],oV (.type "builtin_function_or_method") [.builtin "type.__prepare__",.type "type"],oD P [e3 "__module__" 1178 (.str "octetmint.operands" 1169),e3 "__qualname__" 1180 (.str "Operand" 1179),e3 "__firstlineno__" 1182 (.int 529 1181),e3 "__init__" 1190 (.ref 718),e3 "told" 1197 (.ref 725),e3 "symbol" 1204 (.ref 732),e3 "registers" 1211 (.ref 739),e3 "__static_attributes__" 1213 (.ref 740)] 8,oQ [],oV (.none) [.int 531 0,.int 4 0,.ref 717,.int 534 0,.int 4 0,.ref 724,.int 537 0,.int 4 0,.ref 731,.int 540 0,.int 4 0,.ref 738],oV (.type "code") [.str "Operand" 1173,.str "Operand" 1174,.str "/claim/cut.py" 1175,.int 529 0,.int 0 0,.int 0 0,.int 0 0,.int 0 0,.ref 708,.bool false,.int 181 0,.ref 709,.none,.none,.none,.none,.int 1176 0,.int 529 0,.str "/claim/cut.py" 1177],oF [some (.ref 710),some (.ref 3),some (.ref 707),none,some (.str "octetmint.operands" 1169),none,some (.ref 0)]],g7 (mth 73 0) "Operand.__init__" 712 1183 (.none) md9 0,g7 (mth 73 1) "Operand.told" 719 1191 (.none) md9 0,g7 (mth 73 2) "Operand.symbol" 726 1198 (.none) md9 0,g7 (mth 73 3) "Operand.registers" 733 1205 (.none) md9 0,[oQ [.str "kind" 1212],oD P [e3 "__module__" 1178 (md9),e3 "__firstlineno__" 1182 (.int 529 1181),e3 "__init__" 1190 (.ref 718),e3 "told" 1197 (.ref 725),e3 "symbol" 1204 (.ref 732),e3 "registers" 1211 (.ref 739),e3 "__static_attributes__" 1213 (.ref 740),e3 "__dict__" 1215 (.ref 743),e3 "__weakref__" 1217 (.ref 744),e3 "__doc__" 1218 (.none)] 4,oC "Operand" [.type "object"] [.ref 742,.type "object"] 741 ([.ref 777,.ref 811,.ref 852,.ref 905].take y) [none,none,some (.str "Operand" 1171),some (.str "Operand" 1179),some (.builtin "object.__new__"),some (.bool true)],oV (.type "getset_descriptor") [.str "__dict__" 1214,.ref 742,.builtin "function.__dict__",.builtin "function.__dict__#set"],oV (.type "getset_descriptor") [.str "__weakref__" 1216,.ref 742,.builtin "ExceptionGroup.__weakref__",.none],oV (.type "super") [.ref 742,.ref 742,.ref 742],oV (.type "builtin_function_or_method") [.builtin "object.__init_subclass__",.ref 742],oQ [.ref 742],oV (.type "builtin_function_or_method") [.builtin "type.__prepare__",.type "type"],oD P [e3 "__module__" 1228 (md9),e3 "__qualname__" 1230 (.str "Reg" 1229),e3 "__firstlineno__" 1232 (.int 542 1231),e3 "__init__" 1240 (.ref 760),e3 "told" 1247 (.ref 767),e3 "registers" 1254 (.ref 774),e3 "__static_attributes__" 1256 (.ref 775)] 7,oQ [],oV (.none) [.int 544 0,.int 4 0,.ref 759,.int 548 0,.int 4 0,.ref 766,.int 551 0,.int 4 0,.ref 773],oV (.type "code") [.str "Reg" 1223,.str "Reg" 1224,.str "/claim/cut.py" 1225,.int 542 0,.int 0 0,.int 0 0,.int 0 0,.int 0 0,.ref 750,.bool false,.int 181 0,.ref 751,.none,.none,.none,.none,.int 1226 0,.int 542 0,.str "/claim/cut.py" 1227],oF [some (.ref 752),some (.ref 3),some (.ref 749),none,some (md9),none,some (.ref 0)]],g7 (mth 74 0) "Reg.__init__" 754 1233 (.none) md9 0,g7 (mth 74 1) "Reg.told" 761 1241 (.none) md9 0,g7 (mth 74 2) "Reg.registers" 768 1248 (.none) md9 0,[oQ [.str "register" 1255],oD P [e3 "__module__" 1228 (md9),e3 "__firstlineno__" 1232 (.int 542 1231),e3 "__init__" 1240 (.ref 760),e3 "told" 1247 (.ref 767),e3 "registers" 1254 (.ref 774),e3 "__static_attributes__" 1256 (.ref 775),e3 "__doc__" 1257 (.none)] 2,oC "Reg" [.ref 742] [.ref 777,.ref 742,.type "object"] 776 [] [some (.ref 747),none,some (.str "Reg" 1221),some (.str "Reg" 1229),some (.builtin "object.__new__"),some (.bool true)],oV (.type "super") [.ref 777,.ref 777,.ref 777],oV (.type "builtin_function_or_method") [.builtin "object.__init_subclass__",.ref 777],oQ [.ref 742],oV (.type "builtin_function_or_method") [.builtin "type.__prepare__",.type "type"],oD P [e3 "__module__" 1267 (md9),e3 "__qualname__" 1269 (.str "Imm" 1268),e3 "__firstlineno__" 1271 (.int 553 1270),e3 "__init__" 1281 (.ref 794),e3 "told" 1288 (.ref 801),e3 "symbol" 1295 (.ref 808),e3 "__static_attributes__" 1298 (.ref 809)] 7,oQ [],oV (.none) [.int 555 0,.int 4 0,.ref 793,.int 560 0,.int 4 0,.ref 800,.int 563 0,.int 4 0,.ref 807],oV (.type "code") [.str "Imm" 1262,.str "Imm" 1263,.str "/claim/cut.py" 1264,.int 553 0,.int 0 0,.int 0 0,.int 0 0,.int 0 0,.ref 783,.bool false,.int 181 0,.ref 784,.none,.none,.none,.none,.int 1265 0,.int 553 0,.str "/claim/cut.py" 1266],oF [some (.ref 785),some (.ref 3),some (.ref 782),none,some (md9),none,some (.ref 0)],oQ [.str "" 1272]]]
noncomputable def ob4 (P:Params) (x y:Nat):List (List Obj):=[g7 (mth 75 0) "Imm.__init__" 788 1273 (.ref 787) md9 0,g7 (mth 75 1) "Imm.told" 795 1282 (.none) md9 0,g7 (mth 75 2) "Imm.symbol" 802 1289 (.none) md9 0,[oQ [.str "name" 1296,.str "worth" 1297],oD P [e3 "__module__" 1267 (md9),e3 "__firstlineno__" 1271 (.int 553 1270),e3 "__init__" 1281 (.ref 794),e3 "told" 1288 (.ref 801),e3 "symbol" 1295 (.ref 808),e3 "__static_attributes__" 1298 (.ref 809),e3 "__doc__" 1299 (.none)] 2,oC "Imm" [.ref 742] [.ref 811,.ref 742,.type "object"] 810 [] [some (.ref 780),none,some (.str "Imm" 1260),some (.str "Imm" 1268),some (.builtin "object.__new__"),some (.bool true)],oV (.type "super") [.ref 811,.ref 811,.ref 811],oV (.type "builtin_function_or_method") [.builtin "object.__init_subclass__",.ref 811],oQ [.ref 742],oV (.type "builtin_function_or_method") [.builtin "type.__prepare__",.type "type"],oD P [e3 "__module__" 1309 (md9),e3 "__qualname__" 1311 (.str "Rel" 1310),e3 "__firstlineno__" 1313 (.int 565 1312),e3 "__init__" 1323 (.ref 828),e3 "told" 1330 (.ref 835),e3 "symbol" 1337 (.ref 842),e3 "target" 1345 (.ref 849),e3 "__static_attributes__" 1348 (.ref 850)] 8,oQ [],oV (.none) [.int 567 0,.int 4 0,.ref 827,.int 572 0,.int 4 0,.ref 834,.int 575 0,.int 4 0,.ref 841,.int 578 0,.int 4 0,.ref 848],oV (.type "code") [.str "Rel" 1304,.str "Rel" 1305,.str "/claim/cut.py" 1306,.int 565 0,.int 0 0,.int 0 0,.int 0 0,.int 0 0,.ref 817,.bool false,.int 181 0,.ref 818,.none,.none,.none,.none,.int 1307 0,.int 565 0,.str "/claim/cut.py" 1308],oF [some (.ref 819),some (.ref 3),some (.ref 816),none,some (md9),none,some (.ref 0)],oQ [.str "" 1314]],g7 (mth 76 0) "Rel.__init__" 822 1315 (.ref 821) md9 0,g7 (mth 76 1) "Rel.told" 829 1324 (.none) md9 0,g7 (mth 76 2) "Rel.symbol" 836 1331 (.none) md9 0,g7 (mth 76 3) "Rel.target" 843 1338 (.none) md9 0,[oQ [.str "name" 1346,.str "worth" 1347],oD P [e3 "__module__" 1309 (md9),e3 "__firstlineno__" 1313 (.int 565 1312),e3 "__init__" 1323 (.ref 828),e3 "told" 1330 (.ref 835),e3 "symbol" 1337 (.ref 842),e3 "target" 1345 (.ref 849),e3 "__static_attributes__" 1348 (.ref 850),e3 "__doc__" 1349 (.none)] 2,oC "Rel" [.ref 742] [.ref 852,.ref 742,.type "object"] 851 [] [some (.ref 814),none,some (.str "Rel" 1302),some (.str "Rel" 1310),some (.builtin "object.__new__"),some (.bool true)],oV (.type "super") [.ref 852,.ref 852,.ref 852],oV (.type "builtin_function_or_method") [.builtin "object.__init_subclass__",.ref 852],oQ [.ref 742],oV (.type "builtin_function_or_method") [.builtin "type.__prepare__",.type "type"],oD P [e3 "__module__" 1359 (md9),e3 "__qualname__" 1361 (.str "Mem" 1360),e3 "__firstlineno__" 1363 (.int 580 1362),e3 "__init__" 1380 (.ref 869),e3 "told" 1389 (.ref 876),e3 "symbol" 1396 (.ref 883),e3 "registers" 1402 (.ref 888),e3 "is_rip" 1409 (.ref 895),e3 "is_absolute" 1416 (.ref 902),e3 "__static_attributes__" 1424 (.ref 903)] 10,oQ [],oV (.none) [.int 582 0,.int 4 0,.ref 868,.int 592 0,.int 4 0,.ref 875,.int 597 0,.int 4 0,.ref 882,.int 600 0,.int 4 0,.ref 887,.int 603 0,.int 4 0,.ref 894,.int 606 0,.int 4 0,.ref 901],oV (.type "code") [.str "Mem" 1354,.str "Mem" 1355,.str "/claim/cut.py" 1356,.int 580 0,.int 0 0,.int 0 0,.int 0 0,.int 0 0,.ref 858,.bool false,.int 181 0,.ref 859,.none,.none,.none,.none,.int 1357 0,.int 580 0,.str "/claim/cut.py" 1358],oF [some (.ref 860),some (.ref 3),some (.ref 857),none,some (md9),none,some (.ref 0)],oQ [.int 0 1364,.str "" 1365,.str "" 1366]],g7 (mth 77 0) "Mem.__init__" 863 1367 (.ref 862) md9 0,g7 (mth 77 1) "Mem.told" 870 1381 (.none) md9 0,g7 (mth 77 2) "Mem.symbol" 877 1390 (.none) md9 0,g5 (mth 77 3) "Mem.registers" 884 1397 (.none) md9 0,g7 (mth 77 4) "Mem.is_rip" 889 1403 (.none) md9 0,g7 (mth 77 5) "Mem.is_absolute" 896 1410 (.none) md9 0,[oQ [.str "base" 1417,.str "index" 1418,.str "name" 1419,.str "scale" 1420,.str "segment" 1421,.str "size" 1422,.str "worth" 1423],oD P [e3 "__module__" 1359 (md9),e3 "__firstlineno__" 1363 (.int 580 1362),e3 "__init__" 1380 (.ref 869),e3 "told" 1389 (.ref 876),e3 "symbol" 1396 (.ref 883),e3 "registers" 1402 (.ref 888),e3 "is_rip" 1409 (.ref 895),e3 "is_absolute" 1416 (.ref 902),e3 "__static_attributes__" 1424 (.ref 903),e3 "__doc__" 1425 (.none)] 2,oC "Mem" [.ref 742] [.ref 905,.ref 742,.type "object"] 904 [] [some (.ref 855),none,some (.str "Mem" 1352),some (.str "Mem" 1360),some (.builtin "object.__new__"),some (.bool true)],oV (.type "super") [.ref 905,.ref 905,.ref 905],oV (.type "builtin_function_or_method") [.builtin "object.__init_subclass__",.ref 905],oQ [],oV (.type "builtin_function_or_method") [.builtin "type.__prepare__",.type "type"],oD P [e3 "__module__" 1435 (md9),e3 "__qualname__" 1437 (.str "Instruction" 1436),e3 "__firstlineno__" 1439 (.int 608 1438),e3 "__init__" 1450 (.ref 922),e3 "told" 1456 (.ref 927),e3 "memory_at" 1465 (.ref 934),e3 "memory" 1473 (.ref 941),e3 "symbols" 1480 (.ref 948),e3 "replaced" 1489 (.ref 955),e3 "__static_attributes__" 1493 (.ref 956)] 10,oQ [],oV (.none) [.int 610 0,.int 4 0,.ref 921,.int 615 0,.int 4 0,.ref 926,.int 618 0,.int 4 0,.ref 933,.int 624 0,.int 4 0,.ref 940,.int 628 0,.int 4 0,.ref 947,.int 631 0,.int 4 0,.ref 954],oV (.type "code") [.str "Instruction" 1430,.str "Instruction" 1431,.str "/claim/cut.py" 1432,.int 608 0,.int 0 0,.int 0 0,.int 0 0,.int 0 0,.ref 911,.bool false,.int 181 0,.ref 912,.none,.none,.none,.none,.int 1433 0,.int 608 0,.str "/claim/cut.py" 1434],oF [some (.ref 913),some (.ref 3),some (.ref 910),none,some (md9),none,some (.ref 0)],oQ [.str "" 1440]],g7 (mth 78 0) "Instruction.__init__" 916 1441 (.ref 915) md9 0,g5 (mth 78 1) "Instruction.told" 923 1451 (.none) md9 0,g7 (mth 78 2) "Instruction.memory_at" 928 1457 (.none) md9 0,g7 (mth 78 3) "Instruction.memory" 935 1466 (.none) md9 0,g7 (mth 78 4) "Instruction.symbols" 942 1474 (.none) md9 0,g7 (mth 78 5) "Instruction.replaced" 949 1481 (.none) md9 0]
noncomputable def ob5 (P:Params) (x y:Nat):List (List Obj):=[[oQ [.str "name" 1490,.str "operands" 1491,.str "prefix" 1492],oD P [e3 "__module__" 1435 (md9),e3 "__firstlineno__" 1439 (.int 608 1438),e3 "__init__" 1450 (.ref 922),e3 "told" 1456 (.ref 927),e3 "memory_at" 1465 (.ref 934),e3 "memory" 1473 (.ref 941),e3 "symbols" 1480 (.ref 948),e3 "replaced" 1489 (.ref 955),e3 "__static_attributes__" 1493 (.ref 956),e3 "__dict__" 1495 (.ref 959),e3 "__weakref__" 1497 (.ref 960),e3 "__doc__" 1498 (.none)] 4,oC "Instruction" [.type "object"] [.ref 958,.type "object"] 957 [] [none,none,some (.str "Instruction" 1428),some (.str "Instruction" 1436),some (.builtin "object.__new__"),some (.bool true)],oV (.type "getset_descriptor") [.str "__dict__" 1494,.ref 958,.builtin "function.__dict__",.builtin "function.__dict__#set"],oV (.type "getset_descriptor") [.str "__weakref__" 1496,.ref 958,.builtin "ExceptionGroup.__weakref__",.none],oV (.type "super") [.ref 958,.ref 958,.ref 958],oV (.type "builtin_function_or_method") [.builtin "object.__init_subclass__",.ref 958]],g7 (st 80) "product" 963 1503 (.none) md10 0,g7 (st 81) "clear_flags" 970 1515 (.none) md10 0,g7 (st 82) "lay_wide" 977 1522 (.none) md10 0,g7 (st 83) "put_halves" 984 1530 (.none) md10 0,g7 (st 84) "product_deed" 991 1540 (.none) md10 0,g7 (st 89) "exchange" 998 1563 (.none) md11 0,g7 (st 90) "move_deed" 1005 1575 (.none) md11 0,g7 (st 91) "push_operand" 1012 1587 (.none) md11 0,g7 (st 92) "pop_operand" 1019 1597 (.none) md11 0,g7 (st 93) "stack_deed" 1026 1608 (.none) md11 0,g7 (st 94) "target_of" 1033 1617 (.none) md11 0,g7 (st 95) "count_down" 1040 1625 (.none) md11 0,g7 (st 96) "is_taken" 1047 1632 (.none) md11 0,g7 (st 97) "jump_deed" 1054 1640 (.none) md11 0,g5 (st 99) "_law_pen" 1061 1652 (.none) md12 0,g7 (st 100) "_law_draw" 1066 1658 (.none) md12 0,g7 (st 101) "_law_pick" 1073 1671 (.none) md12 0,g7 (st 102) "_law_leaf" 1080 1679 (.none) md12 0,g7 (st 103) "_law_value" 1087 1687 (.none) md12 0,g7 (st 104) "_law_test" 1094 1699 (.none) md12 0,g7 (st 105) "_law_set" 1101 1708 (.none) md12 0,g5 (st 106) "_law_statement" 1108 1716 (.none) md12 0,g7 (st 107) "_law_signed" 1113 1722 (.none) md12 0,g7 (st 108) "_law_holds" 1120 1729 (.none) md12 0,g5 (st 109) "_law_told" 1127 1738 (.none) md12 0,g7 (st 110) "_law_do" 1132 1744 (.none) md12 0,g7 (st 111) "_law_r" 1139 1759 (.none) md12 0,g7 (st 112) "_law_at" 1146 1766 (.none) md12 0,g7 (st 113) "_law_row" 1153 1774 (.none) md12 0,g7 (st 114) "_law_jump" 1160 1783 (.none) md12 0,g7 (st 115) "_law_mark" 1167 1792 (.none) md12 0,g7 (st 116) "_law_both" 1174 1799 (.none) md12 0,g7 (st 117) "_law_deed" 1181 1809 (.none) md12 0,g7 (st 118) "_law_made" 1188 1819 (.none) md12 0,g7 (st 119) "_law_asked" 1195 1829 (.none) md12 0,g7 (st 120) "_law_laid" 1202 1841 (.none) md12 0,g7 (st 121) "_law_compiled" 1209 1857 (.none) md12 0,g7 (st 122) "_law_program" 1216 1874 (.none) md12 0,g7 (st 123) "_law_products" 1223 1890 (.none) md12 0,g5 (st 124) "law" 1230 1898 (.none) md12 0]
noncomputable def obL (P:Params) (x y:Nat):List Obj:=(ob0 P x y++ob1 P x y++ob2 P x y++ob3 P x y++ob4 P x y++ob5 P x y).flatten
noncomputable def mainO (P:Params) (k:Nat) (nm:Value):Obj:=oD P (("__name__",165,nm)::mainE.take (k - 1)) k
noncomputable def stO (P:Params) (b:Bool):Obj:=match b with
 | true=>⟨.none,none,.dict ⟨[]⟩ 0,⟨[]⟩⟩
 | false=>⟨.none,none,.dict ⟨[e3 "type.__subclasses__.Exception.0" 230 (.int 46 0),e3 "type.__subclasses__.Exception.n" 231 (.int 1 0)].map fun e=>⟨PyData.keyHash P e.1,.str e.1 e.2.1,e.2.2⟩⟩ 2,⟨[]⟩⟩
noncomputable def stL (P:Params) (n k:Nat) (nm:Value) (x y:Nat):List Obj:=([boot_o_0 P,boot_o_1 P,stO P (Nat.ble k 9),mainO P k nm,boot_o_4 P,boot_o_5 P,boot_o_6 P,boot_o_7 P,boot_o_8 P,boot_o_9 P,boot_o_10 P]++obL P x y).take n
noncomputable def sp (l:List Obj):List Obj × List Obj:=@List.rec Obj (fun _=>List Obj × List Obj) ([],[]) (fun a _ ih=>(a::ih.2,ih.1)) l
noncomputable def bt (k:Nat):List Obj→BT:=@Nat.rec (fun _=>List Obj→BT) (fun _=>.nil) (fun _ ih l=>@List.rec Obj (fun _=>BT) .nil (fun v t _=>.node v (ih (sp t).1) (ih (sp t).2)) l) k
noncomputable def sT (w:World) (os:OsState) (n tk k:Nat) (nm:Value) (x y:Nat):SharedT:=⟨bt 12 (stL w.params n k nm x y),n,{},⟨[]⟩,boot_drawn,tk,os⟩
noncomputable def env0:Env:={ scope:=pw.main.scope,locals:=mainNs,globals:=mainNs,cells:=[],code:=.ref 13,frame:=some 14 }
noncomputable def pos0:Pos:=⟨0,0,0,0⟩
noncomputable def cd0:Code:=.body (behindTheImports pw) env0
noncomputable def seg (a n:Nat):List Stmt:=(pw.main.body.drop a).take n
end
section
set_option maxHeartbeats 0
theorem sg0:∀ (w:World) (os:OsState),segRunT treeTable pw w 11 (some (.ref 6)) 1 727 (sT w os 15 187 9 (md0) 0 4) (piecesOf (seg 0 5) env0 cd0 ⟨0,0,0,0⟩ [topFrame pos0])=some (.next,sT w os 74 266 13 (md1) 4 4,cd0,⟨18,0,19,8⟩):=by
 intro w os
 rw [Fast.te10110043849684766642]
 kernel_rfl
theorem sg1:∀ (w:World) (os:OsState),segRunT treeTable pw w 11 (some (.ref 6)) 1 340 (sT w os 74 266 13 (md1) 4 4) (piecesOf (seg 5 19) env0 cd0 ⟨18,0,19,8⟩ [topFrame pos0])=some (.next,sT w os 130 352 30 (md3) 12 4,cd0,⟨55,0,55,10⟩):=by
 intro w os
 rw [Fast.te10110043849684766642]
 kernel_rfl
theorem sg2:∀ (w:World) (os:OsState),segRunT treeTable pw w 11 (some (.ref 6)) 1 486 (sT w os 130 352 30 (md3) 12 4) (piecesOf (seg 24 1) env0 cd0 ⟨55,0,55,10⟩ [topFrame pos0])=some (.next,sT w os 207 452 31 (md3) 13 4,cd0,⟨56,0,108,16⟩):=by
 intro w os
 rw [Fast.te10110043849684766642]
 kernel_rfl
theorem sg3:∀ (w:World) (os:OsState),segRunT treeTable pw w 11 (some (.ref 6)) 1 380 (sT w os 207 452 31 (md3) 13 4) (piecesOf (seg 25 16) env0 cd0 ⟨56,0,108,16⟩ [topFrame pos0])=some (.next,sT w os 277 569 46 (md4) 23 4,cd0,⟨178,0,178,10⟩):=by
 intro w os
 rw [Fast.te10110043849684766642]
 kernel_rfl
theorem sg4:∀ (w:World) (os:OsState),segRunT treeTable pw w 11 (some (.ref 6)) 1 413 (sT w os 277 569 46 (md4) 23 4) (piecesOf (seg 41 2) env0 cd0 ⟨178,0,178,10⟩ [topFrame pos0])=some (.next,sT w os 340 646 48 (md4) 25 4,cd0,⟨201,0,210,13⟩):=by
 intro w os
 rw [Fast.te10110043849684766642]
 kernel_rfl
theorem sg5:∀ (w:World) (os:OsState),segRunT treeTable pw w 11 (some (.ref 6)) 1 117 (sT w os 340 646 48 (md4) 25 4) (piecesOf (seg 43 6) env0 cd0 ⟨201,0,210,13⟩ [topFrame pos0])=some (.next,sT w os 361 675 53 (md5) 28 4,cd0,⟨232,0,232,5⟩):=by
 intro w os
 rw [Fast.te10110043849684766642]
 kernel_rfl
theorem sg6:∀ (w:World) (os:OsState),segRunT treeTable pw w 11 (some (.ref 6)) 1 575 (sT w os 361 675 53 (md5) 28 4) (piecesOf (seg 49 1) env0 cd0 ⟨232,0,232,5⟩ [topFrame pos0])=some (.next,sT w os 455 796 54 (md5) 29 4,cd0,⟨233,0,274,36⟩):=by
 intro w os
 rw [Fast.te10110043849684766642]
 kernel_rfl
theorem sg7:∀ (w:World) (os:OsState),segRunT treeTable pw w 11 (some (.ref 6)) 1 32 (sT w os 455 796 54 (md5) 29 4) (piecesOf (seg 50 1) env0 cd0 ⟨233,0,274,36⟩ [topFrame pos0])=some (.next,sT w os 462 805 55 (md5) 30 4,cd0,⟨275,0,278,40⟩):=by
 intro w os
 rw [Fast.te10110043849684766642]
 kernel_rfl
theorem sg8:∀ (w:World) (os:OsState),segRunT treeTable pw w 11 (some (.ref 6)) 1 656 (sT w os 462 805 55 (md5) 30 4) (piecesOf (seg 51 1) env0 cd0 ⟨275,0,278,40⟩ [topFrame pos0])=some (.next,sT w os 572 957 56 (md5) 31 4,cd0,⟨279,0,374,16⟩):=by
 intro w os
 rw [Fast.te10110043849684766642]
 kernel_rfl
theorem sg9:∀ (w:World) (os:OsState),segRunT treeTable pw w 11 (some (.ref 6)) 1 168 (sT w os 572 957 56 (md5) 31 4) (piecesOf (seg 52 6) env0 cd0 ⟨279,0,374,16⟩ [topFrame pos0])=some (.next,sT w os 607 1007 61 (md6) 36 4,cd0,⟨411,0,411,8⟩):=by
 intro w os
 rw [Fast.te10110043849684766642]
 kernel_rfl
theorem sg10:∀ (w:World) (os:OsState),segRunT treeTable pw w 11 (some (.ref 6)) 1 420 (sT w os 607 1007 61 (md6) 36 4) (piecesOf (seg 58 8) env0 cd0 ⟨411,0,411,8⟩ [topFrame pos0])=some (.next,sT w os 663 1100 67 (md8) 41 4,cd0,⟨451,0,463,37⟩):=by
 intro w os
 rw [Fast.te10110043849684766642]
 kernel_rfl
theorem sg11:∀ (w:World) (os:OsState),segRunT treeTable pw w 11 (some (.ref 6)) 1 211 (sT w os 663 1100 67 (md8) 41 4) (piecesOf (seg 66 7) env0 cd0 ⟨451,0,463,37⟩ [topFrame pos0])=some (.next,sT w os 705 1171 73 (md9) 47 4,cd0,⟨528,0,528,8⟩):=by
 intro w os
 rw [Fast.te10110043849684766642]
 kernel_rfl
theorem sg12:∀ (w:World) (os:OsState),segRunT treeTable pw w 11 (some (.ref 6)) 1 316 (sT w os 705 1171 73 (md9) 47 4) (piecesOf (seg 73 1) env0 cd0 ⟨528,0,528,8⟩ [topFrame pos0])=some (.next,sT w os 747 1221 74 (md9) 48 0,cd0,⟨529,0,541,17⟩):=by
 intro w os
 rw [Fast.te10110043849684766642]
 kernel_rfl
theorem sg13:∀ (w:World) (os:OsState),segRunT treeTable pw w 11 (some (.ref 6)) 1 308 (sT w os 747 1221 74 (md9) 48 0) (piecesOf (seg 74 1) env0 cd0 ⟨529,0,541,17⟩ [topFrame pos0])=some (.next,sT w os 780 1260 75 (md9) 49 1,cd0,⟨542,0,552,30⟩):=by
 intro w os
 rw [Fast.te10110043849684766642]
 kernel_rfl
theorem sg14:∀ (w:World) (os:OsState),segRunT treeTable pw w 11 (some (.ref 6)) 1 312 (sT w os 780 1260 75 (md9) 49 1) (piecesOf (seg 75 1) env0 cd0 ⟨542,0,552,30⟩ [topFrame pos0])=some (.next,sT w os 814 1302 76 (md9) 50 2,cd0,⟨553,0,564,24⟩):=by
 intro w os
 rw [Fast.te10110043849684766642]
 kernel_rfl
theorem sg15:∀ (w:World) (os:OsState),segRunT treeTable pw w 11 (some (.ref 6)) 1 344 (sT w os 814 1302 76 (md9) 50 2) (piecesOf (seg 76 1) env0 cd0 ⟨553,0,564,24⟩ [topFrame pos0])=some (.next,sT w os 855 1352 77 (md9) 51 3,cd0,⟨565,0,579,44⟩):=by
 intro w os
 rw [Fast.te10110043849684766642]
 kernel_rfl
theorem sg16:∀ (w:World) (os:OsState),segRunT treeTable pw w 11 (some (.ref 6)) 1 416 (sT w os 855 1352 77 (md9) 51 3) (piecesOf (seg 77 1) env0 cd0 ⟨565,0,579,44⟩ [topFrame pos0])=some (.next,sT w os 908 1428 78 (md9) 52 4,cd0,⟨580,0,607,17⟩):=by
 intro w os
 rw [Fast.te10110043849684766642]
 kernel_rfl
theorem sg17:∀ (w:World) (os:OsState),segRunT treeTable pw w 11 (some (.ref 6)) 1 395 (sT w os 908 1428 78 (md9) 52 4) (piecesOf (seg 78 2) env0 cd0 ⟨580,0,607,17⟩ [topFrame pos0])=some (.next,sT w os 963 1503 79 (md10) 53 4,cd0,⟨633,0,633,8⟩):=by
 intro w os
 rw [Fast.te10110043849684766642]
 kernel_rfl
theorem sg18:∀ (w:World) (os:OsState),segRunT treeTable pw w 11 (some (.ref 6)) 1 393 (sT w os 963 1503 79 (md10) 53 4) (piecesOf (seg 80 15) env0 cd0 ⟨633,0,633,8⟩ [topFrame pos0])=some (.next,sT w os 1040 1625 93 (md11) 64 4,cd0,⟨721,0,726,46⟩):=by
 intro w os
 rw [Fast.te10110043849684766642]
 kernel_rfl
theorem sg19:∀ (w:World) (os:OsState),segRunT treeTable pw w 11 (some (.ref 6)) 1 403 (sT w os 1040 1625 93 (md11) 64 4) (piecesOf (seg 95 14) env0 cd0 ⟨721,0,726,46⟩ [topFrame pos0])=some (.next,sT w os 1127 1738 106 (md12) 77 4,cd0,⟨810,0,813,208⟩):=by
 intro w os
 rw [Fast.te10110043849684766642]
 kernel_rfl
theorem sg20:∀ (w:World) (os:OsState),segRunT treeTable pw w 11 (some (.ref 6)) 1 421 (sT w os 1127 1738 106 (md12) 77 4) (piecesOf (seg 109 13) env0 cd0 ⟨810,0,813,208⟩ [topFrame pos0])=some (.next,sT w os 1216 1874 119 (md12) 90 4,cd0,⟨927,0,946,62⟩):=by
 intro w os
 rw [Fast.te10110043849684766642]
 kernel_rfl
theorem sg21:∀ (w:World) (os:OsState),segRunT treeTable pw w 11 (some (.ref 6)) 1 95 (sT w os 1216 1874 119 (md12) 90 4) (piecesOf (seg 122 3) env0 cd0 ⟨927,0,946,62⟩ [topFrame pos0])=some (.next,sT w os 1235 1904 122 (md12) 93 4,cd0,⟨966,0,986,82⟩):=by
 intro w os
 rw [Fast.te10110043849684766642]
 kernel_rfl
noncomputable def H1 (P:Params):Heap:=⟨⟨stL P 1235 122 (md12) 93 4⟩,{}⟩
theorem pre0:∀ (w:World) (os:OsState),topGo treeTable pw w 11 (some (.ref 6)) 12 ⟨boot_heap w.params,⟨[]⟩,boot_drawn,boot_toks,os⟩ (topStub pw)=some ((sT w os 15 187 9 (md0) 0 4).abs,⟨denote treeTable cd0,cd0,pos0,[topFrame pos0]⟩):=by
 intro w os
 rw [Fast.te15667345088766844465,Fast.te11892475500146522536]
 kernel_rfl
theorem blk0:∀ (w:World) (os:OsState),segRun treeTable pw w 11 (some (.ref 6)) 1 1 (sT w os 15 187 9 (md0) 0 4).abs (blockOf (behindTheImports pw) env0 cd0 pos0 [topFrame pos0])=some (.next,(sT w os 15 187 9 (md0) 0 4).abs,cd0,pos0):=by
 intro w os
 kernel_rfl
theorem fin0:∀ (w:World) (os:OsState),topRun treeTable pw w 11 (some (.ref 6)) 2 (sT w os 1235 1904 122 (md12) 93 4).abs ⟨doneF .next,cd0,⟨966,0,986,82⟩,[topFrame pos0]⟩=some ⟨H1 w.params,⟨[]⟩,boot_drawn,1904,os⟩:=by
 intro w os
 kernel_rfl
theorem cat0:behindTheImports pw=seg 0 5++(seg 5 19++(seg 24 1++(seg 25 16++(seg 41 2++(seg 43 6++(seg 49 1++(seg 50 1++(seg 51 1++(seg 52 6++(seg 58 8++(seg 66 7++(seg 73 1++(seg 74 1++(seg 75 1++(seg 76 1++(seg 77 1++(seg 78 2++(seg 80 15++(seg 95 14++(seg 109 13++(seg 122 3++([])))))))))))))))))))))):=by kernel_rfl
theorem run0:∀ (w:World) (os:OsState),topRun treeTable pw w 11 (some (.ref 6)) (12+(1+(727+(340+(486+(380+(413+(117+(575+(32+(656+(168+(420+(211+(316+(308+(312+(344+(416+(395+(393+(403+(421+(95+2)))))))))))))))))))))))) ⟨boot_heap w.params,⟨[]⟩,boot_drawn,boot_toks,os⟩ (topStub pw)=some ⟨H1 w.params,⟨[]⟩,boot_drawn,1904,os⟩:=fun w os=>
 go_top (pre0 w os) (piece_block (blk0 w os) (by
  rw [cat0]
  exact piece_app (segRun_of (sg0 w os)) (piece_app (segRun_of (sg1 w os)) (piece_app (segRun_of (sg2 w os)) (piece_app (segRun_of (sg3 w os)) (piece_app (segRun_of (sg4 w os)) (piece_app (segRun_of (sg5 w os)) (piece_app (segRun_of (sg6 w os)) (piece_app (segRun_of (sg7 w os)) (piece_app (segRun_of (sg8 w os)) (piece_app (segRun_of (sg9 w os)) (piece_app (segRun_of (sg10 w os)) (piece_app (segRun_of (sg11 w os)) (piece_app (segRun_of (sg12 w os)) (piece_app (segRun_of (sg13 w os)) (piece_app (segRun_of (sg14 w os)) (piece_app (segRun_of (sg15 w os)) (piece_app (segRun_of (sg16 w os)) (piece_app (segRun_of (sg17 w os)) (piece_app (segRun_of (sg18 w os)) (piece_app (segRun_of (sg19 w os)) (piece_app (segRun_of (sg20 w os)) (piece_app (segRun_of (sg21 w os)) (fin0 w os))))))))))))))))))))))))
end
section
set_option maxHeartbeats 0
noncomputable def qv:Program:=view pw [124]
noncomputable def lo:List Str:=(pw.main.body.take 124).flatMap bindsAtTop
noncomputable abbrev sE (w:World) (os:OsState):Shared:=⟨H1 w.params,⟨[]⟩,boot_drawn,1904,os⟩
theorem lok1 (w:World) (os:OsState):(staticsOk (importedModules pw.main.body) (boot_heap w.params) (H1 w.params)&&namesBound pw (H1 w.params)&&gensDone (sE w os)&&laidKept (boot_heap w.params) (H1 w.params))=true:=by kernel_rfl
theorem lok2 (w:World) (os:OsState):seen ((recsOf qv).map (·.name)) (ownsOf qv) [] (sE w os)=expectedOf qv:=by
 rw [Fast.te5160383126252970620]
 kernel_rfl
theorem lok3 (w:World):(H1 w.params).bltView=bltViewBooted:=by kernel_rfl
theorem lok4 (w:World):(H1 w.params).keysOk (looseW qv lo) ((recsOf qv).map (·.name)) ((litsOf qv).map (·.1)) ((clssOf qv (looseW qv lo)).map (·.name))=true:=by
 rw [Fast.te10880121769531294198,Fast.te13664370479719496447,Fast.te7409074990110511671,Fast.te3399658132070893891,Fast.te821141287760084731]
 kernel_rfl
theorem lok5 (w:World):(H1 w.params).accountedOkI (importedModules pw.main.body)=true:=by
 rw [Fast.te14722251495701143533]
 kernel_rfl
theorem lok6 (w:World) (os:OsState):tablesOk qv (H1 w.params)=true:=by
 rw [Fast.te10994771534591457954]
 kernel_rfl
theorem lok7 (w:World) (os:OsState):(xlAt qv [] (sE w os)&&recOk (RowW.records PySem.Challenge.rw_nn0083_01.row.toRowW) (sE w os))=true:=by kernel_rfl
theorem lok8 (w:World) (os:OsState):tabsOk qv (sE w os)=true:=by
 rw [Fast.te479339242167458305]
 kernel_rfl
theorem lok9 (w:World) (os:OsState):pinSeenD qv (drecsOf qv) (sE w os)=pinGoodD (drecsOf qv):=by
 rw [Fast.te16090120013241838585]
 kernel_rfl
theorem lok10 (w:World) (os:OsState):plainSeenE qv (looseW qv lo) (sE w os)=plainGoodE qv (looseW qv lo):=by
 rw [Fast.te2386780881361962483,Fast.te821141287760084731]
 kernel_rfl
theorem lok11 (w:World) (os:OsState):plainSeenD qv lo (sE w os)=plainGoodD qv lo:=by
 rw [Fast.te11698064438423848299]
 kernel_rfl
theorem lok12 (w:World) (os:OsState):wideSeen qv (sE w os)=wideGood qv:=by
 rw [Fast.te7317090234206586261]
 kernel_rfl
theorem lok13 (w:World) (os:OsState):clsSeenW qv lo (sE w os)=clsGoodW qv lo:=by
 rw [Fast.te7369524293546568484]
 kernel_rfl
theorem pr2 {α β:Type} {a a':α} {b b':β} (x:a=a') (y:b=b'):(a,b)=(a',b'):=by rw [x,y]
theorem an2 {a b:Bool} (x:a=true) (y:b=true):(a&&b)=true:=by rw [x,y];rfl
theorem oa1 (w:World):hk1 (H1 w.params)=true:=by kernel_rfl
theorem ob6 (w:World):hk2 (H1 w.params)=true:=by kernel_rfl
theorem ob7 (w:World):hk3 (H1 w.params)=true:=by kernel_rfl
theorem ob8 (w:World):hk4 (H1 w.params)=true:=by kernel_rfl
theorem ob9 (w:World):hk6 (H1 w.params)=true:=by kernel_rfl
theorem oc1 (w:World):hk7 (H1 w.params)=true:=by kernel_rfl
theorem oc2 (w:World):hkAll (H1 w.params)=true:=an2 (oa1 w) (an2 (ob6 w) (an2 (ob7 w) (an2 (ob8 w) (an2 (ob9 w) (oc1 w)))))
theorem mapE {β:Type} {f g:Nat→β} {l:List Nat} {n:Nat} (a:(l.take n).map f=(l.take n).map g) (b:(l.drop n).map f=(l.drop n).map g):l.map f=l.map g:=by
 rw [← List.take_append_drop n l,List.map_append,List.map_append,a,b]
theorem oc3 (w:World):((fnAll.take 35).map fun i=>(H1 w.params).shapeAt mainGlobals (nmS (st i)))=(fnAll.take 35).map fun i=>some (recAt i).shape:=by
 rw [Fast.te2020367076256383516]
 kernel_rfl
theorem oc4 (w:World):((fnAll.drop 35).map fun i=>(H1 w.params).shapeAt mainGlobals (nmS (st i)))=(fnAll.drop 35).map fun i=>some (recAt i).shape:=by
 rw [Fast.te2020367076256383516]
 kernel_rfl
theorem oa2 (w:World):hkF (H1 w.params)=hkG:=mapE (oc3 w) (oc4 w)
theorem lok14 (w:World) (os:OsState):Hook.obs myHook (sE w os)=Hook.val myHook w:=pr2 (oc2 w) (pr2 (by kernel_rfl) (pr2 (by kernel_rfl) (oa2 w)))
theorem looks0 (w:World):(fun os=>((staticsOk (importedModules pw.main.body) (boot_heap w.params) (H1 w.params)&&namesBound pw (H1 w.params)&&gensDone (sE w os)&&laidKept (boot_heap w.params) (H1 w.params)),
  openSeen qv lo (importedModules pw.main.body) (fun s=>xlAt qv [] s&&recOk (RowW.records PySem.Challenge.rw_nn0083_01.row.toRowW) s) true (sE w os),Hook.obs myHook (sE w os)))=fun _=>(true,openGood qv lo,Hook.val myHook w):=by
 funext os
 refine pr2 (lok1 w os) (pr2 ?_ (lok14 w os))
 unfold openSeen openGood
 exact pr2 (lok2 w os) (pr2 (lok3 w) (pr2 (an2 (an2 (an2 (an2 (an2 (an2 (lok4 w) (lok5 w)) (by kernel_rfl)) (by kernel_rfl)) (lok6 w os)) (lok7 w os)) (by kernel_rfl)) (pr2 (lok8 w os) (pr2 (lok9 w os) (pr2 (lok10 w os) (pr2 (lok11 w os) (pr2 (lok12 w os) (lok13 w os))))))))
theorem left0:LeftO pw qv lo (fun s=>xlAt qv [] s&&recOk (RowW.records PySem.Challenge.rw_nn0083_01.row.toRowW) s) (Hook.obs myHook) (Hook.val myHook) 15938:=
 LeftO.of_pieces (boot_open (by kernel_rfl) (by decide) (fun _=>by kernel_rfl)) (fun w=>by kernel_rfl) run0 (by decide) looks0
theorem prom0:PySem.Challenge.rw_nn0083_01.row.toRowW.promised:=by w_witness2
noncomputable abbrev rw0:=PySem.Challenge.rw_nn0083_01
theorem sd1:(namesMeet pw pw.main.body fun _ n=>attrL n)=true:=by
 rw [Fast.te17119622794617984870,Fast.te17868728402115742887]
 kernel_rfl
theorem rv1:readsOut pw pw.main.body "vars"=false:=by
 rw [Fast.te13343964577679436407]
 kernel_rfl
theorem rv2:readsOut pw pw.main.body "dir"=false:=by
 rw [Fast.te13343964577679436407]
 kernel_rfl
theorem rv3:readsOut pw pw.main.body "locals"=false:=by
 rw [Fast.te13343964577679436407]
 kernel_rfl
theorem fil3 {α:Type} {p:α→Bool} {a b c:α} (x:p a=false) (y:p b=false) (z:p c=false):[a,b,c].filter p=[]:=by
 simp only [List.filter,x,y,z]
theorem bare0:(["vars","dir","locals"]:List Str).filter (readsOut pw pw.main.body)=[]:=fil3 rv1 rv2 rv3
theorem sd2:noRoadLSs { strict:=!(importedModules pw.main.body).all cThrough.contains,foot:=none,bare:=(["vars","dir","locals"]:List Str).filter (readsOut pw pw.main.body) } pw.main.body=true:=by
 rw [bare0,Fast.te8326940854005059898]
 kernel_rfl
theorem sd3:namesResolve pw=true:=by
 rw [Fast.te8377067652309620493]
 kernel_rfl
theorem sd4:pw.boundNames.all (fun n=>!worldNames.contains n)=true:=by kernel_rfl
theorem sd5:noRoadLSs { strict:=true,foot:=some rw0.bound',writes:=rw0.writes,may:=rw0.may } rw0.footing=true:=by
 rw [Fast.te8326940854005059898]
 kernel_rfl
theorem sd6:rw0.bound'.all (fun n=>!builtinNamed n || rw0.about==[n] || !rw0.reads n)=true:=by
 rw [Fast.named_eq,Fast.te6984425678791042302,Fast.sDec_eq]
 kernel_rfl
theorem sd7:rw0.namesIt=true:=by kernel_rfl
theorem sd8:(namesMeet rw0.prog rw0.above (fun _ n=>!rw0.own.contains n))=true:=by
 rw [Fast.te17119622794617984870]
 kernel_rfl
theorem told0:TablesWhole.wSs TablesWhole.gather pw.main.scope ⟨pw.main.scope,[],[],[],none⟩ pw.main.scope pw.main.body=[]:=by
 rw [Fast.te16421684217811934046,Fast.te12652042256554560961]
 kernel_rfl
theorem tw0 (p:Program) (x:TablesWhole.wSs TablesWhole.gather p.main.scope ⟨p.main.scope,[],[],[],none⟩ p.main.scope p.main.body=[]) (y:TablesWhole.noTwice p.main.scope=true)
  (z:TablesWhole.wSs TablesWhole.holds p.main.scope ⟨p.main.scope,[],[],[],none⟩ p.main.scope p.main.body=true) (u:p.modules=[]) (v:p.parses=[]) (r:p.harvested=[]):p.tablesWhole=true:=by
 unfold Program.tablesWhole TablesWhole.wProgram TablesWhole.wModule
 rw [u,v,r,x,y]
 dsimp only
 rw [z]
 rfl
theorem tabS:TablesWhole.wSs TablesWhole.holds pw.main.scope ⟨pw.main.scope,[],[],[],none⟩ pw.main.scope pw.main.body=true:=by
 unfold TablesWhole.holds
 rw [Fast.te16421684217811934046,Fast.te15985051520779696433]
 kernel_rfl
theorem tab0:pw.tablesWhole=true:=tw0 pw told0 (by rw [Fast.te8331962902438777018];kernel_rfl) tabS rfl rfl rfl
theorem sdA:looksOpen pw=true:=by
 unfold looksOpen
 exact an2 (an2 (an2 (an2 (an2 (by kernel_rfl) (by kernel_rfl)) sd3) sd4) sd2) sd1
theorem sdB:rw0.row.partSaid=true:=by
 unfold OpenRow.partSaid
 exact an2 (an2 (an2 (an2 (an2 (an2 (an2 (an2 (an2 (an2 (an2 (an2 (an2 sdA (by kernel_rfl)) (by kernel_rfl)) (by kernel_rfl)) (by kernel_rfl)) (by kernel_rfl)) (by kernel_rfl)) (by kernel_rfl)) (by kernel_rfl)) (by kernel_rfl)) (by kernel_rfl)) (by kernel_rfl)) (by kernel_rfl)) (by kernel_rfl)
theorem sdC:rw0.row.wellSaid=true:=by
 unfold OpenRow.wellSaid
 exact an2 (an2 sdB (by kernel_rfl)) (by kernel_rfl)
theorem said0:rw0.wellSaid=true:=by
 unfold OpenLaw.wellSaid
 refine an2 (an2 (an2 (an2 (an2 (an2 (an2 (an2 (an2 (an2 (an2 (an2 (an2 (an2 (an2 (an2 (an2 (an2 sdC ?_) ?_) ?_) ?_) ?_) sd5) ?_) sd7) ?_) sd6) ?_) ?_) ?_) ?_) ?_) ?_) sd8) ?_
 all_goals kernel_rfl
theorem myHead (walk:∀ (V:Program) (L:List Str) (XP:(Str→Option Value)→Heap→Prop) (d:DefRec) (kwd:List (Str × Expr)),d.name="law"→WalkO V L XP myHook.says PySem.Challenge.rw_nn0083_01.row.toRowW d kwd (fun f vs=>PySem.call f vs)):PySem.Challenge.rw_nn0083_01.Holds:=by
 refine holds_law said0 fun _=>?_
 refine holds_open (q:=qv) (loose:=lo) (XP:=XL qv []) (YP:=Hook.says myHook) (N:=15938) left0 (Hook.of myHook) (Hook.keeps myHook) (fun s e=>xl_of s (Bool.and_eq_true_iff.mp e).1) XL.keeps (by rfl) (by rfl) (by rfl) (fun s e=>recFacts_of (Bool.and_eq_true_iff.mp e).2) (by rfl) sdC (by decide +kernel) ⟨rfl,rfl,rfl,rfl,rfl,tab0⟩ prom0 (walk _ _ _ _ _ rfl)
end
open Builtin Builtin.ObjectAttr
local macro_rules | `(tactic| k_call_by "mem" 0)=>`(tactic| first|assumption|(with_reducible exact List.mem_cons_self)|((with_reducible refine List.mem_cons_of_mem _ ?_);k_call_by "mem" 0))
local macro_rules | `(tactic| k_call_by "lk" 0)=>`(tactic| first|(with_reducible refine lk0 ?_)|((with_reducible refine lk1 ?_);k_call_by "lk" 0))
local macro_rules | `(tactic| k_call_by "up" 0)=>`(tactic| first|(with_reducible refine up0 ?_)|((with_reducible refine up1 ?_);k_call_by "up" 0))
local macro_rules | `(tactic| k_call_by "takeC" 0)=>`(tactic| first|(with_reducible exact TakeC.here)|((with_reducible apply TakeC.there);k_call_by "takeC" 0))
local macro_rules | `(tactic| k_call_by "sel" 0)=>`(tactic| first|(with_reducible exact Sel.refl)|((with_reducible apply Sel.take);k_call_by "takeC" 0;k_call_by "sel" 0)|((with_reducible apply Sel.skip);k_call_by "sel" 0))
local macro_rules | `(tactic| k_call_by "fr" 0)=>`(tactic| first|(with_reducible exact Sel.refl)|((with_reducible apply Sel.take);k_call_by "takeC" 0;k_call_by "fr" 0))
local macro_rules | `(tactic| k_call_by "side" 0)=>`(tactic| first
 | exact ⟨by first|decide|omega,bits_add_le (by first|decide|omega) (by first|decide|omega)⟩
 | (first|decide|omega)
 | exact ⟨by first|assumption|decide|omega,by first|assumption|decide⟩
 | exact IntMulOk.of_left (intBits_le_64 (by first|decide|omega) (by first|decide|omega))
 | exact ⟨by first|decide|omega,bits_mul_le (by first|decide|omega) (by first|decide|omega) (by first|decide|omega)⟩)
local macro_rules | `(tactic| k_call_by "cmp" 0)=>`(tactic| first
 | (with_reducible refine cs_t ?_)
 | (refine cs_f (by first|decide +kernel|assumption) ?_)
 | (refine cs_nt (by first|decide +kernel|assumption) ?_)
 | (with_reducible refine cs_nf ?_)
 | (refine cs_eT (by first|assumption|decide +kernel) ?_)
 | (refine cs_neE (by first|assumption|decide +kernel) ?_)
 | (with_reducible refine cs_isN ?_)
 | (with_reducible refine cs_isnN ?_)
 | (with_reducible refine cs_isnI ?_)
 | (refine cs_inT (by first|assumption|exact rfl) ?_)
 | (refine cs_ninT (by first|assumption|exact rfl) ?_)
 | (refine cs_inL (by k_call_by "mem" 0) (by first|assumption|exact rfl) ?_)
 | (refine cs_ninL (by k_call_by "mem" 0) (by first|assumption|exact rfl) ?_))
local macro_rules | `(tactic| k_call_by "subs" 0)=>`(tactic| first
 | (refine sb_lst (by k_call_by "mem" 0) (by first|decide|omega) (by first|decide|omega) (by first|exact rfl|exact rl_get _ (by omega) (by omega)) ?_)
 | (refine sb_lstF (by first|decide|omega) (by first|decide|omega) (by first|exact rfl|exact rl_get _ (by omega) (by omega)) ?_)
 | (refine sb_sd (by k_call_by "mem" 0) (by exact rfl) ?_)
 | (refine sb_str (by decide +kernel) (by first|assumption|decide +kernel) ?_))
local macro_rules | `(tactic| k_call_by "sets" 0)=>`(tactic| first
 | ((with_reducible refine st_held ?_);k_call_by "up" 0;refine ⟨_,_,rfl,by omega,?_⟩)
 | (refine st_reg (by first|decide|omega) (by first|decide|omega) ?_;k_call_by "up" 0;refine ⟨_,rfl,?_⟩)
 | (refine st_lst (by first|decide|omega) ?_;k_call_by "up" 0;refine And.intro ⟨of_decide_eq_true (by exact rfl),Nat.le_of_ble_eq_true (by exact rfl)⟩ ?_)
 | ((with_reducible refine st_sdE ?_);k_call_by "up" 0;refine ⟨_,rfl,Nat.le_of_ble_eq_true (by kernel_rfl),?_⟩))
local macro_rules | `(tactic| k_call_by "app" 0)=>`(tactic| ((refine w_appU ?_);k_call_by "up" 0;refine ⟨_,rfl,by omega,?_⟩))
local macro_rules | `(tactic| k_call_by "st" 0)=>`(tactic| (refine (?_:Stop _);refine ⟨?_⟩))
local macro_rules | `(tactic| k_call_by "g1" 0)=>`(tactic| first
 | (refine (?_:Stop _);first
  | k_call_by "lk" 0
  | k_call_by "up" 0
  | k_call_by "subs" 0
  | k_call_by "sets" 0
  | (refine ⟨?_⟩;k_call_by "cmp" 0)
  | (refine ⟨?_⟩;first|(with_reducible refine w_intI ?_)|(with_reducible refine w_intB ?_)|(with_reducible refine w_abs ?_))
  | (refine ⟨And.intro (by k_call_by "side" 0) ?_⟩)
  | (refine ⟨And.intro (by first|exact sw_some (by assumption) (by kernel_rfl)|exact sw_none (by assumption) (by kernel_rfl)|exact kpr (by k_call_by "mem" 0)|exact rfl) ?_⟩))
 | (refine (?_:Br _ _ _);first
  | (with_reducible refine br_nt ?_)
  | (with_reducible refine br_nf ?_)
  | (with_reducible refine br_dt (by first|assumption|decide) ?_)
  | (with_reducible refine br_df (by first|assumption|decide) ?_)
  | (with_reducible refine br_ndt (by first|assumption|decide) ?_)
  | (with_reducible refine br_ndf (by first|assumption|decide) ?_)))
local macro_rules | `(tactic| k_call_by "go" 0)=>`(tactic| ((repeat k_call_by "g1" 0);try k_call_by "st" 0))
section
open Builtin Builtin.ObjectAttr
set_option tactic.hygienic false
section
variable {Q:Bt} {n:Nat} {σ:St} {Φ:AV→St→Prop}
theorem k_mask (X:Cx Q) {z:Int} (h0:0≤z) (h1:z≤64) (h:Φ (.int (2^z.toNat - 1)) σ):WG Q (n+1) 5 [.int z] σ Φ:=by
 refine F_t5.wg X rfl rfl fun env E=>?_
 k_call_by "go" 0
 refine ⟨_,.refl,?_⟩
 rw [Int.one_mul]
 exact h
theorem k_wrap (X:Cx Q) {x z:Int} (h0:0≤z) (h1:z≤64) (h:Φ (.int (x % 2^z.toNat)) σ):WG Q (n+2) 6 [.int x,.int z] σ Φ:=by
 refine F_t6.wg X rfl rfl fun env E=>?_
 k_call_by "go" 0
 refine k_mask X h0 h1 ?_
 k_call_by "go" 0
 refine ⟨_,.refl,?_⟩
 rw [kbt_mask]
 exact h
theorem k_wrap64 (X:Cx Q) {x:Int} (h:Φ (.int (BitVec.ofInt 64 x).toNat) σ):WG Q (n+2) 6 [.int x,.int 64] σ Φ:=by
 refine k_wrap X (by decide) (by decide) ?_
 have:((BitVec.ofInt 64 x).toNat:Int)=x % 2^(64:Int).toNat:=by
  rw [BitVec.toNat_ofInt,Int.toNat_of_nonneg (Int.emod_nonneg _ (by decide))];rfl
 rw [this] at h
 exact h
theorem k_signed (X:Cx Q) {x:Int} (h:Φ (.int (BitVec.ofInt 64 x).toInt) σ):WG Q (n+3) 7 [.int x,.int 64] σ Φ:=by
 refine F_t7.wg X rfl rfl fun env E=>?_
 k_call_by "go" 0
 refine k_wrap64 X ?_
 k_call_by "go" 0
 have e:((BitVec.ofInt 64 x).toNat:Int).fdiv (2^((64:Int) - 1).toNat)=((BitVec.ofInt 64 x).toNat:Int) / 2^63:=by
  rw [Int.fdiv_eq_ediv_of_nonneg _ (by decide)];rfl
 have hlt:=(BitVec.ofInt 64 x).isLt
 have hi:=BitVec.toInt_eq_toNat_cond (BitVec.ofInt 64 x)
 rw [e]
 refine br_ (fun q=>?_) fun q=>?_
 ·have q:=of_decide_eq_true q
  k_call_by "go" 0
  refine ⟨_,.refl,?_⟩
  have:((BitVec.ofInt 64 x).toNat:Int) - 1*2^(64:Int).toNat=(BitVec.ofInt 64 x).toInt:=by
   rw [hi,if_neg (by lia)]
   have:((2:Int)^(64:Int).toNat)=2^64:=rfl
   rw [this];lia
  rw [this];exact h
 ·have q:=of_decide_eq_false q
  k_call_by "go" 0
  refine ⟨_,.refl,?_⟩
  have:((BitVec.ofInt 64 x).toNat:Int)=(BitVec.ofInt 64 x).toInt:=by
   rw [hi,if_pos (by lia)]
  rw [this];exact h
theorem k_fits (X:Cx Q) {x:Int} (h:∀ b,Φ (.bool b) σ):WG Q (n+1) 8 [.int x,.int 64] σ Φ:=by
 refine F_t8.wg X rfl rfl fun env E=>?_
 k_call_by "go" 0
 refine br_ (fun _=>?_) fun _=>?_
 ·k_call_by "go" 0
  exact ⟨_,.refl,h _⟩
 ·exact ⟨_,.refl,h _⟩
theorem k_bit (X:Cx Q) {x z:Int} (h0:0≤z) (h:Φ (.int (x.fdiv (2^z.toNat) % 2)) σ):WG Q (n+1) 9 [.int x,.int z] σ Φ:=by
 refine F_t9.wg X rfl rfl fun env E=>?_
 k_call_by "go" 0
 refine ⟨_,.refl,?_⟩
 rw [bitAnd_m1]
 exact h
theorem k_ones (X:Cx Q) {x:Int} (h:∀ k,Φ (.int k) σ):WG Q (n+3) 10 [.int x,.int 8] σ Φ:=by
 refine F_t10.wg X rfl rfl fun env E=>?_
 k_call_by "go" 0
 refine k_wrap X (by decide) (by decide) ?_
 k_call_by "go" 0
 refine ⟨fun m ρ σ'=>∃ r k:Int,0≤r∧m=r.toNat∧ρ=[some (.int x),some (.int 8),some (.int r),some (.int k)]∧σ'=σ,_,⟨_,_,Int.emod_nonneg _ (by decide),rfl,rfl,rfl⟩,?_⟩
 rintro m ρ' σ' ⟨r,k,h0,rfl,rfl,rfl⟩
 k_call_by "go" 0
 refine br_ (fun q=>?_) fun q=>?_
 ·have q:=of_decide_eq_true q
  k_call_by "go" 0
  have b:=bitAnd_range r (y:=r - 1) (by lia)
  exact ⟨_,by lia,_,_,b.1,rfl,rfl,rfl⟩
 ·k_call_by "go" 0
  exact ⟨_,.refl,h _⟩
theorem k_parity (X:Cx Q) {x:Int} (h:∀ k,Φ (.int k) σ):WG Q (n+4) 11 [.int x] σ Φ:=by
 refine F_t11.wg X rfl rfl fun env E=>?_
 k_call_by "go" 0
 refine k_ones X fun k=>?_
 k_call_by "go" 0
 exact ⟨_,.refl,h _⟩
end
end
section
open Builtin Builtin.ObjectAttr
set_option tactic.hygienic false
section
variable {Q:Bt} {n:Nat} {σ:St} {Φ:AV→St→Prop}
theorem k_condnames (X:Cx Q) (h:∀ D,Φ (.ref D) ((D,.lst (conds.map .str))::σ)):WG Q (n+1) 14 [] σ Φ:=by
 refine F_t14.wg X rfl rfl fun env E=>?_
 k_call_by "go" 0
 refine w_splitS (xs:=conds) (by decide +kernel) (by decide +kernel) (by decide +kernel) (by decide +kernel) (by decide +kernel) (by decide +kernel) fun D=>?_
 exact ⟨_,.refl,h D⟩
theorem k_condnumber (X:Cx Q) {x:Str} {j:Nat} (hj:idxStr x (conds.map .str)=some j) (ha:anyStr x (conds.map .str)=some true) (hz:j < 1000) (h:Φ (.int (j:Int)) σ):WG Q (n+2) 25 [.str x] σ Φ:=by
 refine F_t25.wg X rfl rfl fun env E=>?_
 k_call_by "go" 0
 refine k_condnames X fun D=>?_
 k_call_by "go" 0
 refine k_condnames X fun D=>?_
 k_call_by "go" 0
 refine w_index (.head _) hj hz ?_
 exact ⟨_,.skip (.skip .refl),h⟩
noncomputable def condF (x:Str) (cf zf sf of:Int):Bool:=
 if x="e" then decide (zf=1) else if x="ne" then !decide (zf=1) else if x="b" then decide (cf=1) else if x="ae" then !decide (cf=1)
 else if x="be" then decide (cf=1) || decide (zf=1) else if x="a" then !(decide (cf=1) || decide (zf=1))
 else if x="l" then sf != of else if x="ge" then !(sf != of) else if x="le" then decide (zf=1) || (sf != of) else !(decide (zf=1) || (sf != of))
inductive CN (cf zf sf of:Int):Int→Bool→Prop
 | e:CN cf zf sf of 4 (decide (zf=1))|ne:CN cf zf sf of 5 (!decide (zf=1))|b:CN cf zf sf of 2 (decide (cf=1))|ae:CN cf zf sf of 3 (!decide (cf=1))
 | be:CN cf zf sf of 6 (decide (cf=1) || decide (zf=1))|a:CN cf zf sf of 7 (!(decide (cf=1) || decide (zf=1)))|l:CN cf zf sf of 12 (sf != of)|ge:CN cf zf sf of 13 (!(sf != of))
 | le:CN cf zf sf of 14 (decide (zf=1) || (sf != of))|g:CN cf zf sf of 15 (!(decide (zf=1) || (sf != of)))
theorem k_holdsnumber (X:Cx Q) {F:Addr} {cf pf af zf sf of:Int} {j:Int} {b:Bool} (hj:CN cf zf sf of j b)
  (h:Φ (.bool b) ((F,.inst 24 (fl7 cf pf af zf sf of))::σ)):WG Q (n+1) 26 [.ref F,.int j] ((F,.inst 24 (fl7 cf pf af zf sf of))::σ) Φ:=by
 refine F_t26.wg X rfl rfl fun env E=>?_
 have hb:∀ b':Bool,b'=b→Φ (.bool b') ((F,.inst 24 (fl7 cf pf af zf sf of))::σ):=fun b' e=>e▸h
 cases hj
 ·k_call_by "go" 0
  exact ⟨_,.refl,h⟩
 ·k_call_by "go" 0
  exact ⟨_,.refl,h⟩
 ·k_call_by "go" 0
  exact ⟨_,.refl,h⟩
 ·k_call_by "go" 0
  exact ⟨_,.refl,h⟩
 ·by_cases hc:cf=1
  ·k_call_by "go" 0
   exact ⟨_,.refl,hb _ (by simp [hc])⟩
  ·k_call_by "go" 0
   exact ⟨_,.refl,hb _ (by simp [hc])⟩
 ·by_cases hc:cf=1
  ·k_call_by "go" 0
   exact ⟨_,.refl,hb _ (by simp [hc])⟩
  ·k_call_by "go" 0
   exact ⟨_,.refl,hb _ (by simp [hc])⟩
 ·k_call_by "go" 0
  exact ⟨_,.refl,h⟩
 ·k_call_by "go" 0
  exact ⟨_,.refl,h⟩
 ·by_cases hc:zf=1
  ·k_call_by "go" 0
   exact ⟨_,.refl,hb _ (by simp [hc])⟩
  ·k_call_by "go" 0
   exact ⟨_,.refl,hb _ (by simp [hc])⟩
 ·by_cases hc:zf=1
  ·k_call_by "go" 0
   exact ⟨_,.refl,hb _ (by simp [hc])⟩
  ·k_call_by "go" 0
   exact ⟨_,.refl,hb _ (by simp [hc])⟩
noncomputable def law10:List Str:=["e","ne","l","ge","le","g","b","ae","be","a"]
structure CJ (cf zf sf of:Int) (x:Str) (j:Nat):Prop where
 i:idxStr x (conds.map .str)=some j
 a:anyStr x (conds.map .str)=some true
 z:j < 1000
 c:CN cf zf sf of (j:Int) (condF x cf zf sf of)
theorem law10_ok (cf zf sf of:Int):∀ x∈law10,∃ j,CJ cf zf sf of x j:=
 all1 ⟨4,by decide +kernel,by decide +kernel,by decide,.e⟩ (all1 ⟨5,by decide +kernel,by decide +kernel,by decide,.ne⟩ (all1 ⟨12,by decide +kernel,by decide +kernel,by decide,.l⟩ (all1 ⟨13,by decide +kernel,by decide +kernel,by decide,.ge⟩ (all1 ⟨14,by decide +kernel,by decide +kernel,by decide,.le⟩ (all1 ⟨15,by decide +kernel,by decide +kernel,by decide,.g⟩ (all1 ⟨2,by decide +kernel,by decide +kernel,by decide,.b⟩ (all1 ⟨3,by decide +kernel,by decide +kernel,by decide,.ae⟩ (all1 ⟨6,by decide +kernel,by decide +kernel,by decide,.be⟩ (all1 ⟨7,by decide +kernel,by decide +kernel,by decide,.a⟩ (all0))))))))))
theorem k_holds (X:Cx Q) {F:Addr} {cf pf af zf sf of:Int} {x:Str} (hx:x∈law10) (h:Φ (.bool (condF x cf zf sf of)) ((F,.inst 24 (fl7 cf pf af zf sf of))::σ)):
  WG Q (n+3) 27 [.ref F,.str x] ((F,.inst 24 (fl7 cf pf af zf sf of))::σ) Φ:=by
 refine F_t27.wg X rfl rfl fun env E=>?_
 obtain ⟨j,j1,j2,j3,j4⟩:=law10_ok cf zf sf of x hx
 k_call_by "go" 0
 refine k_condnumber X j1 j2 j3 ?_
 k_call_by "go" 0
 refine k_holdsnumber X j4 ?_
 exact ⟨_,.refl,h⟩
end
end
section
open Builtin Builtin.ObjectAttr
set_option tactic.hygienic false
section
variable {Q:Bt} {n:Nat} {σ:St} {Φ:AV→St→Prop}
theorem k_szp (X:Cx Q) {F:Addr} {cf pf af zf sf of r:Int} {v:BV} (hv:BitVec.ofInt 64 r=v) (h:∀ pf,Φ (.int (v.toNat:Int)) ((F,.inst 24 (fl7 cf pf af (zfI v) (sgn v) of))::σ)):
  WG Q (n+5) 28 [.ref F,.int r,.int 64] ((F,.inst 24 (fl7 cf pf af zf sf of))::σ) Φ:=by
 refine F_t28.wg X rfl rfl fun env E=>?_
 k_call_by "go" 0
 refine k_wrap64 X ?_
 rw [hv]
 k_call_by "go" 0
 refine k_bit X (by decide) ?_
 rw [sgn_fdiv]
 k_call_by "go" 0
 rw [zfI_eq]
 k_call_by "go" 0
 refine k_parity X fun k=>?_
 k_call_by "go" 0
 exact ⟨_,.refl,h _⟩
theorem k_subflags (X:Cx Q) {F:Addr} {cf pf af zf sf of a b:Int} {u v:BV} (hu:BitVec.ofInt 64 a=u) (hv:BitVec.ofInt 64 b=v) (h:∀ pf af,Φ (.int ((u - v).toNat:Int)) ((F,.inst 24 (fl7 (cfI u v) pf af (zfI (u - v)) (sgn (u - v)) (ofI u v)))::σ)):
  WG Q (n+6) 30 [.ref F,.int a,.int b,.int 0,.int 64] ((F,.inst 24 (fl7 cf pf af zf sf of))::σ) Φ:=by
 refine F_t30.wg X rfl rfl fun env E=>?_
 k_call_by "go" 0
 refine k_wrap64 X ?_
 k_call_by "go" 0
 refine k_wrap64 X ?_
 rw [hu,hv]
 k_call_by "go" 0
 refine k_szp X (ofInt_sub u v) fun pf=>?_
 k_call_by "go" 0
 rw [cfI_eq]
 k_call_by "go" 0
 refine k_bit X (by decide) ?_
 rw [bitXor_bv,bitXor_bv,bitAnd_bv,sgn_fdiv]
 k_call_by "go" 0
 exact ⟨_,.refl,h _ _⟩
theorem k_addflags (X:Cx Q) {F:Addr} {cf pf af zf sf of a b:Int} {u v:BV} (hu:BitVec.ofInt 64 a=u) (hv:BitVec.ofInt 64 b=v) (h:∀ cf pf af zf sf of,Φ (.int ((u+v).toNat:Int)) ((F,.inst 24 (fl7 cf pf af zf sf of))::σ)):
  WG Q (n+6) 29 [.ref F,.int a,.int b,.int 0,.int 64] ((F,.inst 24 (fl7 cf pf af zf sf of))::σ) Φ:=by
 refine F_t29.wg X rfl rfl fun env E=>?_
 k_call_by "go" 0
 refine k_wrap64 X ?_
 k_call_by "go" 0
 refine k_wrap64 X ?_
 rw [hu,hv]
 k_call_by "go" 0
 refine k_szp X (ofInt_add u v) fun pf=>?_
 k_call_by "go" 0
 refine k_bit X (by decide) ?_
 k_call_by "go" 0
 exact ⟨_,.refl,h _ _ _ _ _ _⟩
theorem k_logicflags (X:Cx Q) {F:Addr} {cf pf af zf sf of a:Int} {u:BV} (hu:BitVec.ofInt 64 a=u) (h:∀ pf,Φ (.int (u.toNat:Int)) ((F,.inst 24 (fl7 0 pf 0 (zfI u) (sgn u) 0))::σ)):
  WG Q (n+6) 31 [.ref F,.int a,.int 64] ((F,.inst 24 (fl7 cf pf af zf sf of))::σ) Φ:=by
 refine F_t31.wg X rfl rfl fun env E=>?_
 k_call_by "go" 0
 refine k_szp X hu fun pf=>?_
 exact ⟨_,.refl,h _⟩
theorem k_decflags (X:Cx Q) {F:Addr} {cf pf af zf sf of a:Int} {u:BV} (hu:BitVec.ofInt 64 a=u) (h:∀ cf pf af zf sf of,Φ (.int ((u - 1).toNat:Int)) ((F,.inst 24 (fl7 cf pf af zf sf of))::σ)):
  WG Q (n+7) 33 [.ref F,.int a,.int 64] ((F,.inst 24 (fl7 cf pf af zf sf of))::σ) Φ:=by
 refine F_t33.wg X rfl rfl fun env E=>?_
 k_call_by "go" 0
 refine k_subflags X hu (v:=1) rfl fun pf af=>?_
 k_call_by "go" 0
 exact ⟨_,.refl,h _ _ _ _ _ _⟩
theorem k_negflags (X:Cx Q) {F:Addr} {cf pf af zf sf of a:Int} {u:BV} (hu:BitVec.ofInt 64 a=u) (h:∀ cf pf af zf sf of,Φ (.int ((0 - u).toNat:Int)) ((F,.inst 24 (fl7 cf pf af zf sf of))::σ)):
  WG Q (n+7) 34 [.ref F,.int a,.int 64] ((F,.inst 24 (fl7 cf pf af zf sf of))::σ) Φ:=by
 refine F_t34.wg X rfl rfl fun env E=>?_
 k_call_by "go" 0
 refine k_subflags X (u:=0) rfl hu fun pf af=>?_
 exact ⟨_,.refl,h _ _ _ _ _ _⟩
theorem k_clear (X:Cx Q) {F:Addr} {cf pf af zf sf of:Int} (h:Φ .none ((F,.inst 24 (fl7 0 0 0 0 0 0))::σ)):
  WG Q (n+1) 81 [.ref F] ((F,.inst 24 (fl7 cf pf af zf sf of))::σ) Φ:=by
 refine F_t81.wg X rfl rfl fun env E=>?_
 k_call_by "go" 0
 exact ⟨_,.refl,h⟩
theorem k_laywide (X:Cx Q) {F:Addr} {cf pf af zf sf of z:Int} (h:∀ cf pf af zf sf of,Φ .none ((F,.inst 24 (fl7 cf pf af zf sf of))::σ)):
  WG Q (n+2) 82 [.ref F,.int z] ((F,.inst 24 (fl7 cf pf af zf sf of))::σ) Φ:=by
 refine F_t82.wg X rfl rfl fun env E=>?_
 k_call_by "go" 0
 refine k_clear X ?_
 k_call_by "go" 0
 exact ⟨_,.refl,h _ _ _ _ _ _⟩
end
end
section
open Builtin Builtin.ObjectAttr
set_option tactic.hygienic false
section
variable {Q:Bt} {n:Nat} {σ:St} {Φ:AV→St→Prop}
theorem names64_split:wordsX "rax rcx rdx rbx rsp rbp rsi rdi"=names64:=by decide +kernel
theorem names64_get {k:Int} (h0:0≤k) (h1:k < 8):(names64.map AV.str)[k.toNat]?=some (.str (names64.getD k.toNat "")):=by
 rw [List.getElem?_map,List.getD_eq_getElem?_getD,List.getElem?_eq_getElem (show k.toNat < names64.length from (Int.toNat_lt h0).mpr h1)]
 rfl
theorem k_early (X:Cx Q) (h:∀ D,Φ (.ref D) ((D,.lst (names64.map .str))::σ)):WG Q (n+1) 42 [.int 64] σ Φ:=by
 refine F_t42.wg X rfl rfl fun env E=>?_
 k_call_by "go" 0
 refine w_split (xs:=names64) (by decide +kernel) (by decide +kernel) names64_split fun D=>?_
 exact ⟨_,.refl,h D⟩
theorem k_Register (X:Cx Q) {x y z u:AV} (h:∀ a,Φ (.ref a) ((a,.inst 41 [x,y,z,u])::σ)):WC Q (n+2) (.ref (cT 41)) [x,y,z,u] σ Φ:=by
 refine F_i41.wk X rfl rfl fun a env E=>?_
 k_call_by "go" 0
 exact ⟨rfl,h a⟩
theorem k_gpr (X:Cx Q) {k:Int} (h0:0≤k) (h1:k < 8) (h:Φ (regV k) σ):WG Q (n+4) 44 [.int k,.int 64] σ Φ:=by
 refine F_t44.wg X rfl rfl fun env E=>?_
 k_call_by "go" 0
 have h2:k≤15:=by lia
 refine k_early X fun D=>?_
 k_call_by "go" 0
 refine cs_len (.head _) (by decide) rfl ?_
 k_call_by "go" 0
 refine ⟨_,sub_lst (.head _) h0 (by lia) (names64_get h0 h1),?_⟩
 k_call_by "go" 0
 refine WC.freeze (k_Register X fun a=>?_)
 exact ⟨a,_,_,_,rfl,.here,rfl,_,.skip .refl,h⟩
end
end
section
open Builtin Builtin.ObjectAttr
set_option tactic.hygienic false
section
variable {Q:Bt} {n:Nat} {σ:St} {Φ:AV→St→Prop}
theorem k_octet (X:Cx Q) {M Ha:Addr} {H:Int→Option B8} {z:Nat} {p:Int} (h:Φ (.int ((oct H p).toNat:Int)) ((M,.inst 49 [.ref Ha])::(Ha,.zd (held H) z)::σ)):
  WM Q (n+3) 49 1 [.ref M,.int p] ((M,.inst 49 [.ref Ha])::(Ha,.zd (held H) z)::σ) Φ:=by
 refine F_m49_1.wm X rfl rfl fun env E=>?_
 k_call_by "go" 0
 refine k_wrap64 X ?_
 k_call_by "go" 0
 refine w_getZ X (.tail _ (.head _)) ?_
 rw [show ((BitVec.ofInt 64 p).toNat:Int)=pl p from rfl,held_get]
 k_call_by "go" 0
 exact ⟨_,.refl,h⟩
theorem k_setoctet (X:Cx Q) {M Ha:Addr} {H:Int→Option B8} {z:Nat} {p:Int} {b:B8} (hz:z≤1000000) (h:Φ .none ((M,.inst 49 [.ref Ha])::(Ha,.zd (held (upd H (pl p) (some b))) (z+1))::σ)):
  WM Q (n+3) 49 2 [.ref M,.int p,.int (b.toNat:Int)] ((M,.inst 49 [.ref Ha])::(Ha,.zd (held H) z)::σ) Φ:=by
 refine F_m49_2.wm X rfl rfl fun env E=>?_
 k_call_by "go" 0
 refine k_wrap64 X ?_
 k_call_by "go" 0
 exact ⟨_,.refl,h⟩
theorem k_mread (X:Cx Q) {M Ha:Addr} {H:Int→Option B8} {z:Nat} {p:Int} (h:Φ (.int ((rd H p).toNat:Int)) ((M,.inst 49 [.ref Ha])::(Ha,.zd (held H) z)::σ)):
  WM Q (n+4) 49 3 [.ref M,.int p,.int 8] ((M,.inst 49 [.ref Ha])::(Ha,.zd (held H) z)::σ) Φ:=by
 refine F_m49_3.wm X rfl rfl fun env E=>?_
 k_call_by "go" 0
 refine w_range ?_
 k_call_by "go" 0
 refine ⟨_,_,it_rng (hi:=8) (by decide),for_at (fun j ρ σ'=>∃ x,ρ=[some (.ref M),some (.int p),some (.int 8),some (.int (racc H p j)),x]∧σ'=(M,.inst 49 [.ref Ha])::(Ha,.zd (held H) z)::σ) ⟨_,rfl,rfl⟩ ?_ ?_⟩
 ·rintro i d ρ σ' Z e ⟨x,rfl,rfl⟩ zz
  obtain ⟨hi,rfl⟩:=irange_get e
  rw [Int.zero_add]
  k_call_by "go" 0
  refine k_octet X ?_
  k_call_by "go" 0
  exact zz.next ⟨_,rfl,rfl⟩
 ·rintro ρ σ' ⟨x,rfl,rfl⟩
  rw [irange_len,rd_eq]
  exact ⟨_,.refl,h⟩
theorem k_setoct (X:Cx Q) {M Ha:Addr} {H:Int→Option B8} {z:Nat} {p:Int} {v:BV} (j:Nat) (hz:z≤1000000) (h:Φ .none ((M,.inst 49 [.ref Ha])::(Ha,.zd (held (upd H (pl p) (some (byt v j)))) (z+1))::σ)):
  WM Q (n+3) 49 2 [.ref M,.int p,.int (bitAnd ((v.toNat:Int).fdiv (2^(8*(j:Int)).toNat)) 255)] ((M,.inst 49 [.ref Ha])::(Ha,.zd (held H) z)::σ) Φ:=by
 rw [show (8*(j:Int)).toNat=8*j from Int.toNat_natCast (8*j),byt_eq]
 exact k_setoctet X hz h
theorem k_mwrite (X:Cx Q) {M Ha:Addr} {H:Int→Option B8} {z:Nat} {p:Int} {v:BV} (hz:z≤100000) (h:Φ .none ((M,.inst 49 [.ref Ha])::(Ha,.zd (held (wr H p v)) (z+8))::σ)):
  WM Q (n+4) 49 4 [.ref M,.int p,.int 8,.int (v.toNat:Int)] ((M,.inst 49 [.ref Ha])::(Ha,.zd (held H) z)::σ) Φ:=by
 refine F_m49_4.wm X rfl rfl fun env E=>?_
 k_call_by "go" 0
 refine w_range ?_
 k_call_by "go" 0
 refine ⟨_,_,it_rng (hi:=8) (by decide),for_at (fun j ρ σ'=>∃ x,ρ=[some (.ref M),some (.int p),some (.int 8),some (.int (v.toNat:Int)),x]∧σ'=(M,.inst 49 [.ref Ha])::(Ha,.zd (held (wrN H p v j)) (z+j))::σ) ⟨_,rfl,rfl⟩ ?_ ?_⟩
 ·rintro i d ρ σ' Z e ⟨x,rfl,rfl⟩ zz
  obtain ⟨hi,rfl⟩:=irange_get e
  rw [Int.zero_add]
  k_call_by "go" 0
  refine k_setoct X i (by lia) ?_
  k_call_by "go" 0
  exact zz.next ⟨_,rfl,rfl⟩
 ·rintro ρ σ' ⟨x,rfl,rfl⟩
  rw [irange_len]
  exact ⟨_,.refl,h⟩
end
end
section
open Builtin Builtin.ObjectAttr
set_option tactic.hygienic false
section
variable {Q:Bt} {n:Nat} {σ:St} {Φ:AV→St→Prop} {a:Ma} {R:Int→BV} {cf pf af zf sf of:Int} {H:Int→Option B8} {z:Nat} {rip beg:Int} {halt:Bool}
theorem k_get (X:Cx Q) {k:Int} (h0:0≤k) (h1:k < 16) (h:Φ (.int ((R k).toNat:Int)) (SC a R cf pf af zf sf of H z rip beg halt σ)):
  WM Q (n+3) 51 1 [.ref a.S,regV k] (SC a R cf pf af zf sf of H z rip beg halt σ) Φ:=by
 refine F_m51_1.wm X rfl rfl fun env E=>?_
 k_call_by "go" 0
 refine k_wrap64 X ?_
 rw [ofInt_self]
 k_call_by "go" 0
 exact ⟨_,.refl,h⟩
theorem k_joined (X:Cx Q) {x:Int} {v:AV} (h:Φ v σ):WG Q (n+1) 50 [.int x,v,.int 64] σ Φ:=by
 refine F_t50.wg X rfl rfl fun env E=>?_
 k_call_by "go" 0
 exact ⟨_,.refl,h⟩
theorem k_put (X:Cx Q) {k v:Int} (h0:0≤k) (h1:k < 16) (h:Φ .none (SC a (upd R k (BitVec.ofInt 64 v)) cf pf af zf sf of H z rip beg halt σ)):
  WM Q (n+3) 51 2 [.ref a.S,regV k,.int v] (SC a R cf pf af zf sf of H z rip beg halt σ) Φ:=by
 refine F_m51_2.wm X rfl rfl fun env E=>?_
 k_call_by "go" 0
 refine k_wrap64 X ?_
 k_call_by "go" 0
 refine k_joined X ?_
 k_call_by "go" 0
 exact ⟨_,.refl,h⟩
theorem k_putlow (X:Cx Q) {k v:Int} (h0:0≤k) (h1:k < 16) (h:Φ .none (SC a (upd R k (BitVec.ofInt 64 v)) cf pf af zf sf of H z rip beg halt σ)):
  WM Q (n+4) 51 3 [.ref a.S,regV k,.int 64,.int v] (SC a R cf pf af zf sf of H z rip beg halt σ) Φ:=by
 refine F_m51_3.wm X rfl rfl fun env E=>?_
 k_call_by "go" 0
 refine k_put X h0 h1 ?_
 k_call_by "go" 0
 exact ⟨_,.refl,h⟩
theorem k_offset (X:Cx Q) {b far s:Int} (h0:0≤b) (h1:b < 16) (h:Φ (.int (pl (far+(R b).toNat))) (SC a R cf pf af zf sf of H z rip beg halt σ)):
  WM Q (n+4) 51 5 [.ref a.S,memO b .none far s] (SC a R cf pf af zf sf of H z rip beg halt σ) Φ:=by
 refine F_m51_5.wm X rfl rfl fun env E=>?_
 k_call_by "go" 0
 refine k_get X h0 h1 ?_
 k_call_by "go" 0
 refine k_wrap64 X ?_
 k_call_by "go" 0
 exact ⟨_,.refl,h⟩
theorem k_offsetX (X:Cx Q) {b x far s:Int} (h0:0≤b) (h1:b < 16) (h2:0≤x) (h3:x < 16) (h:Φ (.int (pl (far+(R b).toNat+(R x).toNat*1))) (SC a R cf pf af zf sf of H z rip beg halt σ)):
  WM Q (n+4) 51 5 [.ref a.S,memO b (regV x) far s] (SC a R cf pf af zf sf of H z rip beg halt σ) Φ:=by
 refine F_m51_5.wm X rfl rfl fun env E=>?_
 k_call_by "go" 0
 refine k_get X h0 h1 ?_
 k_call_by "go" 0
 refine k_get X h2 h3 ?_
 k_call_by "go" 0
 refine k_wrap64 X ?_
 k_call_by "go" 0
 exact ⟨_,.refl,h⟩
theorem k_place (X:Cx Q) {b far s:Int} (h0:0≤b) (h1:b < 16) (h:Φ (.int (pl (far+(R b).toNat))) (SC a R cf pf af zf sf of H z rip beg halt σ)):
  WM Q (n+5) 51 6 [.ref a.S,memO b .none far s] (SC a R cf pf af zf sf of H z rip beg halt σ) Φ:=by
 refine F_m51_6.wm X rfl rfl fun env E=>?_
 k_call_by "go" 0
 refine k_offset X h0 h1 ?_
 k_call_by "go" 0
 refine k_wrap64 X ?_
 have e:((BitVec.ofInt 64 (pl (far+(R b).toNat)+0)).toNat:Int)=pl (far+(R b).toNat):=by
  unfold pl;rw [Int.add_zero,ofInt_self]
 rw [e]
 k_call_by "go" 0
 exact ⟨_,.refl,h⟩
theorem k_sizeR (X:Cx Q) {k:Int} {name:Str} {ops:List AV} (hz:ops.length≤3) (h:Φ (.int 64) σ) {S:Addr}:
  WM Q (n+2) 51 7 [.ref S,regO k,insV name ops] σ Φ:=by
 refine F_m51_7.wm X rfl rfl fun env E=>?_
 k_call_by "go" 0
 intro A
 k_call_by "go" 0
 refine w_listT (by lia) fun D=>?_
 k_call_by "go" 0
 refine ⟨_,.head _,(by show 1+ops.length≤1000;lia),fun L=>⟨⟨_,_,it_frz .here rfl (it_lst trivial),?_⟩⟩⟩
 k_call_by "go" 0
 exact ⟨_,.skip (.skip .refl),h⟩
theorem k_sizeM (X:Cx Q) {b far:Int} {name:Str} {ops:List AV} (hz:ops.length≤3) (h:Φ (.int 64) σ) {S:Addr}:
  WM Q (n+2) 51 7 [.ref S,memO b .none far 64,insV name ops] σ Φ:=by
 refine F_m51_7.wm X rfl rfl fun env E=>?_
 k_call_by "go" 0
 intro A
 k_call_by "go" 0
 refine w_listT (by lia) fun D=>?_
 k_call_by "go" 0
 refine ⟨_,.head _,(by show 1+ops.length≤1000;lia),fun L=>⟨⟨_,_,it_frz .here rfl (it_lst trivial),?_⟩⟩⟩
 k_call_by "go" 0
 exact ⟨_,.skip (.skip .refl),h⟩
end
end
section
open Builtin Builtin.ObjectAttr
set_option tactic.hygienic false
inductive Op where
 | reg (k:Int)
 | imm (v:Int)
 | mem (b far:Int)
@[reducible] noncomputable def Op.av:Op→AV
 | .reg k=>regO k
 | .imm v=>immO v
 | .mem b far=>memO b .none far 64
noncomputable def Op.ok:Op→Prop
 | .reg k=>0≤k∧k < 16
 | .imm _=>True
 | .mem b _=>0≤b∧b < 16
@[reducible] noncomputable def rdO (R:Int→BV) (H:Int→Option B8):Op→BV
 | .reg k=>R k
 | .imm v=>BitVec.ofInt 64 v
 | .mem b far=>rd H (pl (far+(R b).toNat))
section
variable {Q:Bt} {n:Nat} {σ:St} {Φ:AV→St→Prop} {a:Ma} {R:Int→BV} {cf pf af zf sf of:Int} {H:Int→Option B8} {z:Nat} {rip beg:Int} {halt:Bool}
theorem k_sread (X:Cx Q) {o:Op} (ho:o.ok) (h:Φ (.int ((rdO R H o).toNat:Int)) (SC a R cf pf af zf sf of H z rip beg halt σ)):
  WM Q (n+6) 51 8 [.ref a.S,o.av,.int 64] (SC a R cf pf af zf sf of H z rip beg halt σ) Φ:=by
 refine F_m51_8.wm X rfl rfl fun env E=>?_
 cases o with
 | reg k=>
  obtain ⟨h0,h1⟩:=ho
  k_call_by "go" 0
  refine k_get X h0 h1 ?_
  k_call_by "go" 0
  refine k_wrap64 X ?_
  rw [ofInt_self]
  exact ⟨_,.refl,h⟩
 | imm v=>
  k_call_by "go" 0
  refine k_wrap64 X ?_
  exact ⟨_,.refl,h⟩
 | mem b far=>
  obtain ⟨h0,h1⟩:=ho
  k_call_by "go" 0
  refine k_place X h0 h1 ?_
  k_call_by "go" 0
  refine' WM.sel ?s (k_mread X ?_)
  case s=>k_call_by "fr" 0
  refine ⟨_,?_,h⟩
  k_call_by "sel" 0
theorem k_swriteR (X:Cx Q) {k v:Int} (h0:0≤k) (h1:k < 16) (h:Φ .none (SC a (upd R k (BitVec.ofInt 64 v)) cf pf af zf sf of H z rip beg halt σ)):
  WM Q (n+6) 51 9 [.ref a.S,regO k,.int 64,.int v] (SC a R cf pf af zf sf of H z rip beg halt σ) Φ:=by
 refine F_m51_9.wm X rfl rfl fun env E=>?_
 k_call_by "go" 0
 refine k_putlow X h0 h1 ?_
 k_call_by "go" 0
 exact ⟨_,.refl,h⟩
theorem k_swriteM (X:Cx Q) {b far:Int} {v:BV} (h0:0≤b) (h1:b < 16) (hz:z≤100000) (h:Φ .none (SC a R cf pf af zf sf of (wr H (pl (far+(R b).toNat)) v) (z+8) rip beg halt σ)):
  WM Q (n+6) 51 9 [.ref a.S,memO b .none far 64,.int 64,.int (v.toNat:Int)] (SC a R cf pf af zf sf of H z rip beg halt σ) Φ:=by
 refine F_m51_9.wm X rfl rfl fun env E=>?_
 k_call_by "go" 0
 refine k_place X h0 h1 ?_
 k_call_by "go" 0
 refine' WM.sel ?s (k_mwrite X hz ?_)
 case s=>k_call_by "fr" 0
 k_call_by "go" 0
 refine ⟨_,?_,h⟩
 k_call_by "sel" 0
theorem k_push (X:Cx Q) {v:BV} (hz:z≤100000) (h:Φ .none (SC a (upd R 4 (R 4 - 8)) cf pf af zf sf of (wr H ((R 4 - 8).toNat:Int) v) (z+8) rip beg halt σ)):
  WM Q (n+5) 51 10 [.ref a.S,.int (v.toNat:Int),.int 8] (SC a R cf pf af zf sf of H z rip beg halt σ) Φ:=by
 refine F_m51_10.wm X rfl rfl fun env E=>?_
 k_call_by "go" 0
 refine k_wrap64 X ?_
 have e:BitVec.ofInt 64 (((R 4).toNat:Int) - 8)=R 4 - 8:=by
  have:=ofInt_sub (R 4) 8
  rw [Int.sub_zero] at this;exact this
 rw [e]
 k_call_by "go" 0
 rw [show upd R 4 (R 4 - 8) 4=R 4 - 8 from if_pos rfl]
 refine' WM.sel ?s (k_mwrite X hz ?_)
 case s=>k_call_by "fr" 0
 k_call_by "go" 0
 refine ⟨_,?_,h⟩
 k_call_by "sel" 0
theorem k_pop (X:Cx Q) (h:Φ (.int ((rd H ((R 4).toNat:Int)).toNat:Int)) (SC a (upd R 4 (R 4+8)) cf pf af zf sf of H z rip beg halt σ)):
  WM Q (n+5) 51 11 [.ref a.S,.int 8] (SC a R cf pf af zf sf of H z rip beg halt σ) Φ:=by
 refine F_m51_11.wm X rfl rfl fun env E=>?_
 k_call_by "go" 0
 refine' WM.sel ?s (k_mread X ?_)
 case s=>k_call_by "fr" 0
 k_call_by "go" 0
 refine k_wrap64 X ?_
 have e:BitVec.ofInt 64 (((R 4).toNat:Int)+8)=R 4+8:=by
  have:=ofInt_add (R 4) 8
  rw [Int.add_zero] at this;exact this
 rw [e]
 k_call_by "go" 0
 refine ⟨_,?_,h⟩
 k_call_by "sel" 0
end
end
section
open Builtin Builtin.ObjectAttr
set_option tactic.hygienic false
section
variable {Q:Bt} {n:Nat} {σ:St} {Φ:AV→St→Prop} {a:Ma} {R:Int→BV} {cf pf af zf sf of:Int} {H:Int→Option B8} {z:Nat} {rip beg:Int} {halt:Bool}
noncomputable def bop (x:Str) (u v:BV):BV:=if x="add" then u+v else if x="sub" then u - v else if x="and" then u &&& v else if x="or" then u ||| v else u ^^^ v
noncomputable def bops:List Str:=["add","sub","and","or","xor"]
theorem ofInt_and (u v:BV):BitVec.ofInt 64 (bitAnd (u.toNat:Int) v.toNat)=u &&& v:=by rw [bitAnd_bv,ofInt_self]
theorem ofInt_or (u v:BV):BitVec.ofInt 64 (bitOr (u.toNat:Int) v.toNat)=u ||| v:=by rw [bitOr_bv,ofInt_self]
theorem ofInt_xor (u v:BV):BitVec.ofInt 64 (bitXor (u.toNat:Int) v.toNat)=u ^^^ v:=by rw [bitXor_bv,ofInt_self]
theorem k_combined (X:Cx Q) {F:Addr} {x:Str} {u v:BV} (hx:x∈bops) (h:∀ cf pf af zf sf of,Φ (.int ((bop x u v).toNat:Int)) ((F,.inst 24 (fl7 cf pf af zf sf of))::σ)):
  WG Q (n+7) 63 [.ref F,.str x,.int (u.toNat:Int),.int (v.toNat:Int),.int 64] ((F,.inst 24 (fl7 cf pf af zf sf of))::σ) Φ:=by
 refine F_t63.wg X rfl rfl fun env E=>?_
 simp only [bops,List.mem_cons,List.mem_nil_iff,or_false] at hx
 rcases hx with rfl|rfl|rfl|rfl|rfl
 ·k_call_by "go" 0
  refine k_addflags X (ofInt_self u) (ofInt_self v) fun _ _ _ _ _ _=>?_
  exact ⟨_,.refl,h _ _ _ _ _ _⟩
 ·k_call_by "go" 0
  refine k_subflags X (ofInt_self u) (ofInt_self v) fun _ _=>?_
  exact ⟨_,.refl,h _ _ _ _ _ _⟩
 ·k_call_by "go" 0
  refine k_logicflags X (ofInt_and u v) fun _=>?_
  exact ⟨_,.refl,h _ _ _ _ _ _⟩
 ·k_call_by "go" 0
  refine k_logicflags X (ofInt_or u v) fun _=>?_
  exact ⟨_,.refl,h _ _ _ _ _ _⟩
 ·k_call_by "go" 0
  refine k_logicflags X (ofInt_xor u v) fun _=>?_
  exact ⟨_,.refl,h _ _ _ _ _ _⟩
theorem k_combCmp (X:Cx Q) {F:Addr} {u v:BV} (h:∀ d pf af,Φ d ((F,.inst 24 (fl7 (cfI u v) pf af (zfI (u - v)) (sgn (u - v)) (ofI u v)))::σ)):
  WG Q (n+7) 63 [.ref F,.str "cmp",.int (u.toNat:Int),.int (v.toNat:Int),.int 64] ((F,.inst 24 (fl7 cf pf af zf sf of))::σ) Φ:=by
 refine F_t63.wg X rfl rfl fun env E=>?_
 k_call_by "go" 0
 refine k_subflags X (ofInt_self u) (ofInt_self v) fun _ _=>?_
 exact ⟨_,.refl,h _ _ _⟩
theorem k_combTest (X:Cx Q) {F:Addr} {u v:BV} (h:∀ d cf pf af sf of,Φ d ((F,.inst 24 (fl7 cf pf af (zfI (u &&& v)) sf of))::σ)):
  WG Q (n+7) 63 [.ref F,.str "test",.int (u.toNat:Int),.int (v.toNat:Int),.int 64] ((F,.inst 24 (fl7 cf pf af zf sf of))::σ) Φ:=by
 refine F_t63.wg X rfl rfl fun env E=>?_
 k_call_by "go" 0
 refine k_logicflags X (ofInt_and u v) fun _=>?_
 exact ⟨_,.refl,h _ _ _ _ _ _⟩
theorem bops_ne {x:Str} (hx:x∈bops):anyStr x [.str "cmp",.str "test"]=some false:=by
 simp only [bops,List.mem_cons,List.mem_nil_iff,or_false] at hx
 rcases hx with rfl|rfl|rfl|rfl|rfl<;>decide +kernel
theorem k_two (X:Cx Q) {x:Str} {k:Int} {o:Op} (hx:x∈bops) (h0:0≤k) (h1:k < 16) (ho:o.ok) (h:∀ cf pf af zf sf of,Φ .none (SC a (upd R k (bop x (R k) (rdO R H o))) cf pf af zf sf of H z rip beg halt σ)):
  WG Q (n+8) 64 [.ref a.S,insV x [regO k,o.av]] (SC a R cf pf af zf sf of H z rip beg halt σ) Φ:=by
 refine F_t64.wg X rfl rfl fun env E=>?_
 have hc:=bops_ne hx
 k_call_by "go" 0
 refine k_sizeR X (by show 2≤3;decide) ?_
 k_call_by "go" 0
 refine k_sread X (o:=.reg k) ⟨h0,h1⟩ ?_
 k_call_by "go" 0
 refine k_sread X ho ?_
 k_call_by "go" 0
 refine' WG.sel ?s (k_combined X hx fun _ _ _ _ _ _=>?_)
 case s=>k_call_by "fr" 0
 k_call_by "go" 0
 refine' WM.sel ?s (k_swriteR X h0 h1 ?_)
 case s=>k_call_by "sel" 0
 rw [ofInt_self]
 k_call_by "go" 0
 exact ⟨_,.refl,h _ _ _ _ _ _⟩
theorem k_twoCmp (X:Cx Q) {k:Int} {o:Op} (h0:0≤k) (h1:k < 16) (ho:o.ok) (h:∀ pf af,Φ .none (SC a R (cfI (R k) (rdO R H o)) pf af (zfI (R k - rdO R H o)) (sgn (R k - rdO R H o)) (ofI (R k) (rdO R H o)) H z rip beg halt σ)):
  WG Q (n+8) 64 [.ref a.S,insV "cmp" [regO k,o.av]] (SC a R cf pf af zf sf of H z rip beg halt σ) Φ:=by
 refine F_t64.wg X rfl rfl fun env E=>?_
 k_call_by "go" 0
 refine k_sizeR X (by show 2≤3;decide) ?_
 k_call_by "go" 0
 refine k_sread X (o:=.reg k) ⟨h0,h1⟩ ?_
 k_call_by "go" 0
 refine k_sread X ho ?_
 k_call_by "go" 0
 refine' WG.sel ?s (k_combCmp X fun d pf af=>?_)
 case s=>k_call_by "fr" 0
 k_call_by "go" 0
 refine ⟨_,?_,h pf af⟩
 k_call_by "sel" 0
theorem k_twoTest (X:Cx Q) {k:Int} {o:Op} (h0:0≤k) (h1:k < 16) (ho:o.ok) (h:∀ cf pf af sf of,Φ .none (SC a R cf pf af (zfI (R k &&& rdO R H o)) sf of H z rip beg halt σ)):
  WG Q (n+8) 64 [.ref a.S,insV "test" [regO k,o.av]] (SC a R cf pf af zf sf of H z rip beg halt σ) Φ:=by
 refine F_t64.wg X rfl rfl fun env E=>?_
 k_call_by "go" 0
 refine k_sizeR X (by show 2≤3;decide) ?_
 k_call_by "go" 0
 refine k_sread X (o:=.reg k) ⟨h0,h1⟩ ?_
 k_call_by "go" 0
 refine k_sread X ho ?_
 k_call_by "go" 0
 refine' WG.sel ?s (k_combTest X fun d cf pf af sf of=>?_)
 case s=>k_call_by "fr" 0
 k_call_by "go" 0
 refine ⟨_,?_,h cf pf af sf of⟩
 k_call_by "sel" 0
theorem k_oneNeg (X:Cx Q) {k:Int} (h0:0≤k) (h1:k < 16) (h:∀ cf pf af zf sf of,Φ .none (SC a (upd R k (0 - R k)) cf pf af zf sf of H z rip beg halt σ)):
  WG Q (n+8) 65 [.ref a.S,insV "neg" [regO k]] (SC a R cf pf af zf sf of H z rip beg halt σ) Φ:=by
 refine F_t65.wg X rfl rfl fun env E=>?_
 k_call_by "go" 0
 refine k_sizeR X (by show 1≤3;decide) ?_
 k_call_by "go" 0
 refine k_sread X (o:=.reg k) ⟨h0,h1⟩ ?_
 k_call_by "go" 0
 refine' WG.sel ?s (k_negflags X (ofInt_self (R k)) fun _ _ _ _ _ _=>?_)
 case s=>k_call_by "fr" 0
 k_call_by "go" 0
 refine' WM.sel ?s (k_swriteR X h0 h1 ?_)
 case s=>k_call_by "sel" 0
 rw [ofInt_self]
 k_call_by "go" 0
 exact ⟨_,.refl,h _ _ _ _ _ _⟩
theorem k_oneDec (X:Cx Q) {k:Int} (h0:0≤k) (h1:k < 16) (h:∀ cf pf af zf sf of,Φ .none (SC a (upd R k (R k - 1)) cf pf af zf sf of H z rip beg halt σ)):
  WG Q (n+8) 65 [.ref a.S,insV "dec" [regO k]] (SC a R cf pf af zf sf of H z rip beg halt σ) Φ:=by
 refine F_t65.wg X rfl rfl fun env E=>?_
 k_call_by "go" 0
 refine k_sizeR X (by show 1≤3;decide) ?_
 k_call_by "go" 0
 refine k_sread X (o:=.reg k) ⟨h0,h1⟩ ?_
 k_call_by "go" 0
 refine' WG.sel ?s (k_decflags X (ofInt_self (R k)) fun _ _ _ _ _ _=>?_)
 case s=>k_call_by "fr" 0
 k_call_by "go" 0
 refine' WM.sel ?s (k_swriteR X h0 h1 ?_)
 case s=>k_call_by "sel" 0
 rw [ofInt_self]
 k_call_by "go" 0
 exact ⟨_,.refl,h _ _ _ _ _ _⟩
end
end
section
open Builtin Builtin.ObjectAttr
set_option tactic.hygienic false
section
variable {Q:Bt} {n:Nat} {σ:St} {Φ:AV→St→Prop} {a:Ma} {R:Int→BV} {cf pf af zf sf of:Int} {H:Int→Option B8} {z:Nat} {rip beg:Int} {halt:Bool}
theorem k_condofL (X:Cx Q) (h:Φ (.str "l") σ):WG Q (n+2) 60 [.str "cmovl"] σ Φ:=by
 refine F_t60.wg X rfl rfl fun env E=>?_
 k_call_by "go" 0
 refine ⟨_,_,it_tup trivial,?_⟩
 k_call_by "go" 0
 refine w_startsE (b:=false) (by decide +kernel) ?_
 k_call_by "go" 0
 refine w_startsE (b:=false) (by decide +kernel) ?_
 k_call_by "go" 0
 refine w_startsE (b:=true) (by decide +kernel) ?_
 k_call_by "go" 0
 refine e_slS (F_t60.cok X E) S_t60_0 ?_
 k_call_by "go" 0
 refine w_lenS (by decide +kernel) ?_
 k_call_by "go" 0
 refine ⟨"l",by decide +kernel,?_⟩
 k_call_by "go" 0
 refine k_condnames X fun D=>?_
 k_call_by "go" 0
 refine e_slS (F_t60.cok X E) S_t60_1 ?_
 k_call_by "go" 0
 refine w_lenS (by decide +kernel) ?_
 k_call_by "go" 0
 refine ⟨"l",by decide +kernel,?_⟩
 exact ⟨_,.skip .refl,h⟩
theorem k_moveNo (X:Cx Q) {x:Str} {ops:List AV} (h1:(x==("nop":Str))=false) (h2:(x==("mov":Str))=false) (h3:(x==("lea":Str))=false) (h4:(x==("xchg":Str))=false) {S:Addr} (h:Φ (.bool false) σ):
  WG Q (n+1) 90 [.ref S,insV x ops] σ Φ:=by
 refine F_t90.wg X rfl rfl fun env E=>?_
 k_call_by "go" 0
 exact ⟨_,.refl,h⟩
theorem k_arithNo (X:Cx Q) {x:Str} {ops:List AV} (h1:anyStr x [.str "add",.str "adc",.str "sub",.str "sbb",.str "cmp",.str "and",.str "or",.str "xor",.str "test"]=some false) (h2:anyStr x [.str "inc",.str "dec",.str "not",.str "neg"]=some false) (h3:(x==("xadd":Str))=false) (h4:(x==("cmpxchg":Str))=false)
  (h5:anyStr x [.str "clc",.str "stc",.str "cmc",.str "cld",.str "std",.str "lahf",.str "sahf"]=some false) (h6:Txt.startswith x "set"=false) (h7:Txt.startswith x "cmov"=false) {S:Addr} (h:Φ (.bool false) σ):
  WG Q (n+1) 71 [.ref S,insV x ops] σ Φ:=by
 refine F_t71.wg X rfl rfl fun env E=>?_
 k_call_by "go" 0
 refine w_startsE h6 ?_
 k_call_by "go" 0
 refine w_startsE h7 ?_
 k_call_by "go" 0
 exact ⟨_,.refl,h⟩
theorem k_stackNo (X:Cx Q) {x:Str} {ops:List AV} (h1:(x==("push":Str))=false) (h2:(x==("pop":Str))=false) (h3:(x==("pushfq":Str))=false) (h4:(x==("popfq":Str))=false) (h5:(x==("leave":Str))=false) {S:Addr} (h:Φ (.bool false) σ):
  WG Q (n+1) 93 [.ref S,insV x ops] σ Φ:=by
 refine F_t93.wg X rfl rfl fun env E=>?_
 k_call_by "go" 0
 exact ⟨_,.refl,h⟩
theorem k_jumpNo (X:Cx Q) {ops:List AV} {S:Addr} (h:Φ (.bool false) σ):
  WG Q (n+1) 97 [.ref S,insV "imul" ops] σ Φ:=by
 refine F_t97.wg X rfl rfl fun env E=>?_
 k_call_by "go" 0
 exact ⟨_,.refl,h⟩
theorem k_cmov (X:Cx Q) {k:Int} {o:Op} (h0:0≤k) (h1:k < 16) (ho:o.ok) (h:Φ .none (SC a (upd R k (if condF "l" cf zf sf of then rdO R H o else R k)) cf pf af zf sf of H z rip beg halt σ)):
  WG Q (n+8) 70 [.ref a.S,insV "cmovl" [regO k,o.av]] (SC a R cf pf af zf sf of H z rip beg halt σ) Φ:=by
 refine F_t70.wg X rfl rfl fun env E=>?_
 k_call_by "go" 0
 refine k_sizeR X (by show 2≤3;decide) ?_
 k_call_by "go" 0
 refine k_sread X (o:=.reg k) ⟨h0,h1⟩ ?_
 k_call_by "go" 0
 refine k_sread X ho ?_
 k_call_by "go" 0
 refine k_condofL X ?_
 k_call_by "go" 0
 refine' WG.sel ?s (k_holds X (x:="l") (by decide) ?_)
 case s=>k_call_by "fr" 0
 cases hb:condF "l" cf zf sf of with
 | true=>
  rw [hb] at h
  k_call_by "go" 0
  refine' WM.sel ?s (k_swriteR X h0 h1 ?_)
  case s=>k_call_by "sel" 0
  rw [ofInt_self]
  k_call_by "go" 0
  exact ⟨_,.refl,h⟩
 | false=>
  rw [hb] at h
  k_call_by "go" 0
  refine' WM.sel ?s (k_swriteR X h0 h1 ?_)
  case s=>k_call_by "sel" 0
  rw [ofInt_self]
  k_call_by "go" 0
  exact ⟨_,.refl,h⟩
theorem k_arTwo (X:Cx Q) {x:Str} {k:Int} {o:Op} (hx:x∈bops) (h0:0≤k) (h1:k < 16) (ho:o.ok) (h:∀ cf pf af zf sf of,Φ (.bool true) (SC a (upd R k (bop x (R k) (rdO R H o))) cf pf af zf sf of H z rip beg halt σ)):
  WG Q (n+9) 71 [.ref a.S,insV x [regO k,o.av]] (SC a R cf pf af zf sf of H z rip beg halt σ) Φ:=by
 refine F_t71.wg X rfl rfl fun env E=>?_
 have hc:anyStr x [.str "add",.str "adc",.str "sub",.str "sbb",.str "cmp",.str "and",.str "or",.str "xor",.str "test"]=some true:=by
  simp only [bops,List.mem_cons,List.mem_nil_iff,or_false] at hx
  rcases hx with rfl|rfl|rfl|rfl|rfl<;>decide +kernel
 k_call_by "go" 0
 refine k_two X hx h0 h1 ho fun _ _ _ _ _ _=>?_
 k_call_by "go" 0
 exact ⟨_,.refl,h _ _ _ _ _ _⟩
theorem k_arCmp (X:Cx Q) {k:Int} {o:Op} (h0:0≤k) (h1:k < 16) (ho:o.ok) (h:∀ pf af,Φ (.bool true) (SC a R (cfI (R k) (rdO R H o)) pf af (zfI (R k - rdO R H o)) (sgn (R k - rdO R H o)) (ofI (R k) (rdO R H o)) H z rip beg halt σ)):
  WG Q (n+9) 71 [.ref a.S,insV "cmp" [regO k,o.av]] (SC a R cf pf af zf sf of H z rip beg halt σ) Φ:=by
 refine F_t71.wg X rfl rfl fun env E=>?_
 k_call_by "go" 0
 refine k_twoCmp X h0 h1 ho fun pf af=>?_
 k_call_by "go" 0
 exact ⟨_,.refl,h _ _⟩
theorem k_arTest (X:Cx Q) {k:Int} {o:Op} (h0:0≤k) (h1:k < 16) (ho:o.ok) (h:∀ cf pf af sf of,Φ (.bool true) (SC a R cf pf af (zfI (R k &&& rdO R H o)) sf of H z rip beg halt σ)):
  WG Q (n+9) 71 [.ref a.S,insV "test" [regO k,o.av]] (SC a R cf pf af zf sf of H z rip beg halt σ) Φ:=by
 refine F_t71.wg X rfl rfl fun env E=>?_
 k_call_by "go" 0
 refine k_twoTest X h0 h1 ho fun _ _ _ _ _=>?_
 k_call_by "go" 0
 exact ⟨_,.refl,h _ _ _ _ _⟩
theorem k_arNeg (X:Cx Q) {k:Int} (h0:0≤k) (h1:k < 16) (h:∀ cf pf af zf sf of,Φ (.bool true) (SC a (upd R k (0 - R k)) cf pf af zf sf of H z rip beg halt σ)):
  WG Q (n+9) 71 [.ref a.S,insV "neg" [regO k]] (SC a R cf pf af zf sf of H z rip beg halt σ) Φ:=by
 refine F_t71.wg X rfl rfl fun env E=>?_
 k_call_by "go" 0
 refine k_oneNeg X h0 h1 fun _ _ _ _ _ _=>?_
 k_call_by "go" 0
 exact ⟨_,.refl,h _ _ _ _ _ _⟩
theorem k_arDec (X:Cx Q) {k:Int} (h0:0≤k) (h1:k < 16) (h:∀ cf pf af zf sf of,Φ (.bool true) (SC a (upd R k (R k - 1)) cf pf af zf sf of H z rip beg halt σ)):
  WG Q (n+9) 71 [.ref a.S,insV "dec" [regO k]] (SC a R cf pf af zf sf of H z rip beg halt σ) Φ:=by
 refine F_t71.wg X rfl rfl fun env E=>?_
 k_call_by "go" 0
 refine k_oneDec X h0 h1 fun _ _ _ _ _ _=>?_
 k_call_by "go" 0
 exact ⟨_,.refl,h _ _ _ _ _ _⟩
theorem k_arCmov (X:Cx Q) {k:Int} {o:Op} (h0:0≤k) (h1:k < 16) (ho:o.ok) (h:Φ (.bool true) (SC a (upd R k (if condF "l" cf zf sf of then rdO R H o else R k)) cf pf af zf sf of H z rip beg halt σ)):
  WG Q (n+9) 71 [.ref a.S,insV "cmovl" [regO k,o.av]] (SC a R cf pf af zf sf of H z rip beg halt σ) Φ:=by
 refine F_t71.wg X rfl rfl fun env E=>?_
 k_call_by "go" 0
 refine w_startsE (b:=false) (by decide +kernel) ?_
 k_call_by "go" 0
 refine w_startsE (b:=true) (by decide +kernel) ?_
 k_call_by "go" 0
 refine k_condofL X ?_
 k_call_by "go" 0
 refine k_cmov X h0 h1 ho ?_
 k_call_by "go" 0
 exact ⟨_,.refl,h⟩
end
end
section
open Builtin Builtin.ObjectAttr
set_option tactic.hygienic false
section
variable {Q:Bt} {n:Nat} {σ:St} {Φ:AV→St→Prop} {a:Ma} {R:Int→BV} {cf pf af zf sf of:Int} {H:Int→Option B8} {z:Nat} {rip beg:Int} {halt:Bool}
theorem toInt_bounds (u:BV):-(2^63)≤u.toInt∧u.toInt < 2^63:=by
 have h1:=BitVec.toInt_lt (x:=u)
 have h2:=BitVec.le_toInt (x:=u)
 lia
theorem k_product (X:Cx Q) {u v:BV} (h:∀ hi wd,Φ (.tup [.int ((u*v).toNat:Int),.int hi,.int wd]) σ):WG Q (n+4) 80 [.int (u.toNat:Int),.int (v.toNat:Int),.int 64,.bool true] σ Φ:=by
 refine F_t80.wg X rfl rfl fun env E=>?_
 have bu:=toInt_bounds u
 have bv:=toInt_bounds v
 k_call_by "go" 0
 refine k_signed X ?_
 rw [ofInt_self]
 k_call_by "go" 0
 refine k_signed X ?_
 rw [ofInt_self]
 k_call_by "go" 0
 refine k_fits X fun b=>?_
 k_call_by "go" 0
 refine k_wrap64 X ?_
 have e:BitVec.ofInt 64 (u.toInt*v.toInt)=u*v:=by rw [BitVec.ofInt_mul,BitVec.ofInt_toInt,BitVec.ofInt_toInt]
 rw [e]
 k_call_by "go" 0
 refine k_wrap64 X ?_
 k_call_by "go" 0
 exact ⟨_,.refl,h _ _⟩
theorem k_prod2 (X:Cx Q) {k:Int} {o:Op} (h0:0≤k) (h1:k < 16) (ho:o.ok) (h:∀ cf pf af zf sf of,Φ .none (SC a (upd R k (R k*rdO R H o)) cf pf af zf sf of H z rip beg halt σ)):
  WG Q (n+8) 84 [.ref a.S,insV "imul" [regO k,o.av]] (SC a R cf pf af zf sf of H z rip beg halt σ) Φ:=by
 refine F_t84.wg X rfl rfl fun env E=>?_
 k_call_by "go" 0
 refine k_sizeR X (by show 2≤3;decide) ?_
 k_call_by "go" 0
 refine k_sread X (o:=.reg k) ⟨h0,h1⟩ ?_
 k_call_by "go" 0
 refine w_lenT2 ?_
 k_call_by "go" 0
 refine k_sread X ho ?_
 k_call_by "go" 0
 refine w_lenT2 ?_
 k_call_by "go" 0
 refine k_product X fun hi wd=>?_
 k_call_by "go" 0
 refine k_swriteR X h0 h1 ?_
 rw [ofInt_self]
 k_call_by "go" 0
 refine' WG.sel ?s (k_laywide X fun cf pf af zf sf of=>?_)
 case s=>k_call_by "fr" 0
 k_call_by "go" 0
 refine ⟨_,?_,h cf pf af zf sf of⟩
 k_call_by "sel" 0
theorem k_prod3 (X:Cx Q) {k j v:Int} (h0:0≤k) (h1:k < 16) (h2:0≤j) (h3:j < 16) (h:∀ cf pf af zf sf of,Φ .none (SC a (upd R k (BitVec.ofInt 64 v*R j)) cf pf af zf sf of H z rip beg halt σ)):
  WG Q (n+8) 84 [.ref a.S,insV "imul" [regO k,regO j,immO v]] (SC a R cf pf af zf sf of H z rip beg halt σ) Φ:=by
 refine F_t84.wg X rfl rfl fun env E=>?_
 k_call_by "go" 0
 refine k_sizeR X (by show 3≤3;decide) ?_
 k_call_by "go" 0
 refine k_sread X (o:=.reg k) ⟨h0,h1⟩ ?_
 k_call_by "go" 0
 refine w_lenT3 ?_
 k_call_by "go" 0
 refine k_sread X (o:=.reg j) ⟨h2,h3⟩ ?_
 k_call_by "go" 0
 refine w_lenT3 ?_
 k_call_by "go" 0
 refine k_sread X (o:=.imm v) trivial ?_
 k_call_by "go" 0
 refine k_product X fun hi wd=>?_
 k_call_by "go" 0
 refine k_swriteR X h0 h1 ?_
 rw [ofInt_self]
 k_call_by "go" 0
 refine' WG.sel ?s (k_laywide X fun cf pf af zf sf of=>?_)
 case s=>k_call_by "fr" 0
 k_call_by "go" 0
 refine ⟨_,?_,h cf pf af zf sf of⟩
 k_call_by "sel" 0
theorem k_products2 (X:Cx Q) {k:Int} {o:Op} (h0:0≤k) (h1:k < 16) (ho:o.ok) (h:∀ cf pf af zf sf of,Φ (.bool true) (SC a (upd R k (R k*rdO R H o)) cf pf af zf sf of H z rip beg halt σ)):
  WG Q (n+9) 123 [.ref a.S,insV "imul" [regO k,o.av]] (SC a R cf pf af zf sf of H z rip beg halt σ) Φ:=by
 refine F_t123.wg X rfl rfl fun env E=>?_
 k_call_by "go" 0
 refine k_prod2 X h0 h1 ho fun _ _ _ _ _ _=>?_
 k_call_by "go" 0
 exact ⟨_,.refl,h _ _ _ _ _ _⟩
theorem k_products3 (X:Cx Q) {k j v:Int} (h0:0≤k) (h1:k < 16) (h2:0≤j) (h3:j < 16) (h:∀ cf pf af zf sf of,Φ (.bool true) (SC a (upd R k (BitVec.ofInt 64 v*R j)) cf pf af zf sf of H z rip beg halt σ)):
  WG Q (n+9) 123 [.ref a.S,insV "imul" [regO k,regO j,immO v]] (SC a R cf pf af zf sf of H z rip beg halt σ) Φ:=by
 refine F_t123.wg X rfl rfl fun env E=>?_
 k_call_by "go" 0
 refine k_prod3 X h0 h1 h2 h3 fun _ _ _ _ _ _=>?_
 k_call_by "go" 0
 exact ⟨_,.refl,h _ _ _ _ _ _⟩
theorem k_exchange (X:Cx Q) {i j:Int} (h0:0≤i) (h1:i < 16) (h2:0≤j) (h3:j < 16) (h:Φ .none (SC a (upd (upd R i (R j)) j (R i)) cf pf af zf sf of H z rip beg halt σ)):
  WG Q (n+8) 89 [.ref a.S,regO i,regO j,.int 64] (SC a R cf pf af zf sf of H z rip beg halt σ) Φ:=by
 refine F_t89.wg X rfl rfl fun env E=>?_
 k_call_by "go" 0
 refine k_sread X (o:=.reg i) ⟨h0,h1⟩ ?_
 k_call_by "go" 0
 refine k_sread X (o:=.reg j) ⟨h2,h3⟩ ?_
 k_call_by "go" 0
 refine k_swriteR X h0 h1 ?_
 rw [ofInt_self]
 k_call_by "go" 0
 refine k_swriteR X h2 h3 ?_
 rw [ofInt_self]
 k_call_by "go" 0
 exact ⟨_,.refl,h⟩
theorem k_mvXchg (X:Cx Q) {i j:Int} (h0:0≤i) (h1:i < 16) (h2:0≤j) (h3:j < 16) (h:Φ (.bool true) (SC a (upd (upd R i (R j)) j (R i)) cf pf af zf sf of H z rip beg halt σ)):
  WG Q (n+9) 90 [.ref a.S,insV "xchg" [regO i,regO j]] (SC a R cf pf af zf sf of H z rip beg halt σ) Φ:=by
 refine F_t90.wg X rfl rfl fun env E=>?_
 k_call_by "go" 0
 refine k_sizeR X (by show 2≤3;decide) ?_
 k_call_by "go" 0
 refine k_exchange X h0 h1 h2 h3 ?_
 k_call_by "go" 0
 exact ⟨_,.refl,h⟩
theorem k_mvR (X:Cx Q) {k:Int} {o:Op} (h0:0≤k) (h1:k < 16) (ho:o.ok) (h:Φ (.bool true) (SC a (upd R k (rdO R H o)) cf pf af zf sf of H z rip beg halt σ)):
  WG Q (n+9) 90 [.ref a.S,insV "mov" [regO k,o.av]] (SC a R cf pf af zf sf of H z rip beg halt σ) Φ:=by
 refine F_t90.wg X rfl rfl fun env E=>?_
 k_call_by "go" 0
 refine k_sizeR X (by show 2≤3;decide) ?_
 k_call_by "go" 0
 refine k_sread X ho ?_
 k_call_by "go" 0
 refine k_swriteR X h0 h1 ?_
 rw [ofInt_self]
 k_call_by "go" 0
 exact ⟨_,.refl,h⟩
theorem k_mvM (X:Cx Q) {b far:Int} {o:Op} (h0:0≤b) (h1:b < 16) (ho:o.ok) (hz:z≤100000) (h:Φ (.bool true) (SC a R cf pf af zf sf of (wr H (pl (far+(R b).toNat)) (rdO R H o)) (z+8) rip beg halt σ)):
  WG Q (n+9) 90 [.ref a.S,insV "mov" [memO b .none far 64,o.av]] (SC a R cf pf af zf sf of H z rip beg halt σ) Φ:=by
 refine F_t90.wg X rfl rfl fun env E=>?_
 k_call_by "go" 0
 refine k_sizeM X (by show 2≤3;decide) ?_
 k_call_by "go" 0
 refine k_sread X ho ?_
 k_call_by "go" 0
 refine k_swriteM X h0 h1 hz ?_
 k_call_by "go" 0
 exact ⟨_,.refl,h⟩
theorem k_mvLea (X:Cx Q) {k b far s:Int} (h0:0≤k) (h1:k < 16) (h2:0≤b) (h3:b < 16) (h:Φ (.bool true) (SC a (upd R k (BitVec.ofInt 64 (far+(R b).toNat))) cf pf af zf sf of H z rip beg halt σ)):
  WG Q (n+9) 90 [.ref a.S,insV "lea" [regO k,memO b .none far s]] (SC a R cf pf af zf sf of H z rip beg halt σ) Φ:=by
 refine F_t90.wg X rfl rfl fun env E=>?_
 k_call_by "go" 0
 refine k_sizeR X (by show 2≤3;decide) ?_
 k_call_by "go" 0
 refine k_offset X h2 h3 ?_
 k_call_by "go" 0
 refine k_put X h0 h1 ?_
 rw [show BitVec.ofInt 64 (pl (far+(R b).toNat))=BitVec.ofInt 64 (far+(R b).toNat) from ofInt_self _]
 k_call_by "go" 0
 exact ⟨_,.refl,h⟩
theorem k_mvLeaX (X:Cx Q) {k b x far s:Int} (h0:0≤k) (h1:k < 16) (h2:0≤b) (h3:b < 16) (h4:0≤x) (h5:x < 16) (h:Φ (.bool true) (SC a (upd R k (BitVec.ofInt 64 (far+(R b).toNat+(R x).toNat*1))) cf pf af zf sf of H z rip beg halt σ)):
  WG Q (n+9) 90 [.ref a.S,insV "lea" [regO k,memO b (regV x) far s]] (SC a R cf pf af zf sf of H z rip beg halt σ) Φ:=by
 refine F_t90.wg X rfl rfl fun env E=>?_
 k_call_by "go" 0
 refine k_sizeR X (by show 2≤3;decide) ?_
 k_call_by "go" 0
 refine k_offsetX X h2 h3 h4 h5 ?_
 k_call_by "go" 0
 refine k_put X h0 h1 ?_
 rw [show BitVec.ofInt 64 (pl (far+(R b).toNat+(R x).toNat*1))=BitVec.ofInt 64 (far+(R b).toNat+(R x).toNat*1) from ofInt_self _]
 k_call_by "go" 0
 exact ⟨_,.refl,h⟩
end
end
section
open Builtin Builtin.ObjectAttr
set_option tactic.hygienic false
section
variable {Q:Bt} {n:Nat} {σ:St} {Φ:AV→St→Prop} {a:Ma} {R:Int→BV} {cf pf af zf sf of:Int} {H:Int→Option B8} {z:Nat} {rip beg:Int} {halt:Bool}
theorem k_pushop (X:Cx Q) {k:Int} (h0:0≤k) (h1:k < 16) (hz:z≤100000) (h:Φ .none (SC a (upd R 4 (R 4 - 8)) cf pf af zf sf of (wr H ((R 4 - 8).toNat:Int) (R k)) (z+8) rip beg halt σ)):
  WG Q (n+8) 91 [.ref a.S,insV "push" [regO k]] (SC a R cf pf af zf sf of H z rip beg halt σ) Φ:=by
 refine F_t91.wg X rfl rfl fun env E=>?_
 k_call_by "go" 0
 refine k_sizeR X (by show 1≤3;decide) ?_
 k_call_by "go" 0
 refine k_sread X (o:=.reg k) ⟨h0,h1⟩ ?_
 k_call_by "go" 0
 refine k_push X hz ?_
 k_call_by "go" 0
 exact ⟨_,.refl,h⟩
theorem k_popop (X:Cx Q) {k:Int} (h0:0≤k) (h1:k < 16) (h:Φ .none (SC a (upd (upd R 4 (R 4+8)) k (rd H ((R 4).toNat:Int))) cf pf af zf sf of H z rip beg halt σ)):
  WG Q (n+8) 92 [.ref a.S,insV "pop" [regO k]] (SC a R cf pf af zf sf of H z rip beg halt σ) Φ:=by
 refine F_t92.wg X rfl rfl fun env E=>?_
 k_call_by "go" 0
 refine k_sizeR X (by show 1≤3;decide) ?_
 k_call_by "go" 0
 refine k_pop X ?_
 k_call_by "go" 0
 refine k_swriteR X h0 h1 ?_
 rw [ofInt_self]
 k_call_by "go" 0
 exact ⟨_,.refl,h⟩
theorem k_stPush (X:Cx Q) {k:Int} (h0:0≤k) (h1:k < 16) (hz:z≤100000) (h:Φ (.bool true) (SC a (upd R 4 (R 4 - 8)) cf pf af zf sf of (wr H ((R 4 - 8).toNat:Int) (R k)) (z+8) rip beg halt σ)):
  WG Q (n+9) 93 [.ref a.S,insV "push" [regO k]] (SC a R cf pf af zf sf of H z rip beg halt σ) Φ:=by
 refine F_t93.wg X rfl rfl fun env E=>?_
 k_call_by "go" 0
 refine k_pushop X h0 h1 hz ?_
 k_call_by "go" 0
 exact ⟨_,.refl,h⟩
theorem k_stPop (X:Cx Q) {k:Int} (h0:0≤k) (h1:k < 16) (h:Φ (.bool true) (SC a (upd (upd R 4 (R 4+8)) k (rd H ((R 4).toNat:Int))) cf pf af zf sf of H z rip beg halt σ)):
  WG Q (n+9) 93 [.ref a.S,insV "pop" [regO k]] (SC a R cf pf af zf sf of H z rip beg halt σ) Φ:=by
 refine F_t93.wg X rfl rfl fun env E=>?_
 k_call_by "go" 0
 refine k_popop X h0 h1 ?_
 k_call_by "go" 0
 exact ⟨_,.refl,h⟩
theorem k_stLeave (X:Cx Q) (h:Φ (.bool true) (SC a (upd (upd (upd R 4 (R 5)) 4 (R 5+8)) 5 (rd H ((R 5).toNat:Int))) cf pf af zf sf of H z rip beg halt σ)):
  WG Q (n+9) 93 [.ref a.S,insV "leave" []] (SC a R cf pf af zf sf of H z rip beg halt σ) Φ:=by
 refine F_t93.wg X rfl rfl fun env E=>?_
 k_call_by "go" 0
 refine k_pop X ?_
 rw [show upd R 4 (R 5) 4=R 5 from if_pos rfl]
 k_call_by "go" 0
 exact ⟨_,.refl,h⟩
theorem k_target (X:Cx Q) {k:Int} (h:Φ (.int (pl (rip+k))) (SC a R cf pf af zf sf of H z rip beg halt σ)):
  WG Q (n+3) 94 [.ref a.S,relO k] (SC a R cf pf af zf sf of H z rip beg halt σ) Φ:=by
 refine F_t94.wg X rfl rfl fun env E=>?_
 k_call_by "go" 0
 refine k_wrap64 X ?_
 exact ⟨_,.refl,h⟩
theorem k_jpCall (X:Cx Q) {k:Int} {r:BV} (hz:z≤100000) (h:Φ (.bool true) (SC a (upd R 4 (R 4 - 8)) cf pf af zf sf of (wr H ((R 4 - 8).toNat:Int) r) (z+8) (pl ((r.toNat:Int)+k)) beg halt σ)):
  WG Q (n+9) 97 [.ref a.S,insV "call" [relO k]] (SC a R cf pf af zf sf of H z (r.toNat:Int) beg halt σ) Φ:=by
 refine F_t97.wg X rfl rfl fun env E=>?_
 k_call_by "go" 0
 refine k_target X ?_
 k_call_by "go" 0
 refine k_push X hz ?_
 k_call_by "go" 0
 exact ⟨_,.refl,h⟩
theorem k_jpRet (X:Cx Q) (h:Φ (.bool true) (SC a (upd R 4 (R 4+8)) cf pf af zf sf of H z ((rd H ((R 4).toNat:Int)).toNat:Int) beg halt σ)):
  WG Q (n+9) 97 [.ref a.S,insV "ret" []] (SC a R cf pf af zf sf of H z rip beg halt σ) Φ:=by
 refine F_t97.wg X rfl rfl fun env E=>?_
 k_call_by "go" 0
 refine k_pop X ?_
 k_call_by "go" 0
 refine w_lenT0 ?_
 k_call_by "go" 0
 exact ⟨_,.refl,h⟩
theorem k_jpRetI (X:Cx Q) {k:Int} (h:Φ (.bool true) (SC a (upd (upd R 4 (R 4+8)) 4 (BitVec.ofInt 64 (((R 4+8).toNat:Int)+k))) cf pf af zf sf of H z ((rd H ((R 4).toNat:Int)).toNat:Int) beg halt σ)):
  WG Q (n+9) 97 [.ref a.S,insV "ret" [immO k]] (SC a R cf pf af zf sf of H z rip beg halt σ) Φ:=by
 refine F_t97.wg X rfl rfl fun env E=>?_
 k_call_by "go" 0
 refine k_pop X ?_
 k_call_by "go" 0
 refine w_lenT1 ?_
 k_call_by "go" 0
 rw [show upd R 4 (R 4+8) 4=R 4+8 from if_pos rfl]
 refine k_wrap64 X ?_
 k_call_by "go" 0
 exact ⟨_,.refl,h⟩
theorem k_takenJmp (X:Cx Q) {S:Addr} (h:Φ (.bool true) σ):WG Q (n+1) 96 [.ref S,.str "jmp"] σ Φ:=by
 refine F_t96.wg X rfl rfl fun env E=>?_
 k_call_by "go" 0
 exact ⟨_,.refl,h⟩
theorem k_jpJmp (X:Cx Q) {k:Int} (h:Φ (.bool true) (SC a R cf pf af zf sf of H z (pl (rip+k)) beg halt σ)):
  WG Q (n+9) 97 [.ref a.S,insV "jmp" [relO k]] (SC a R cf pf af zf sf of H z rip beg halt σ) Φ:=by
 refine F_t97.wg X rfl rfl fun env E=>?_
 k_call_by "go" 0
 refine k_target X ?_
 k_call_by "go" 0
 refine k_takenJmp X ?_
 k_call_by "go" 0
 exact ⟨_,.refl,h⟩
structure Jcc (nm x:Str):Prop where
 mem:x∈law10
 j:Txt.item nm 0="j"
 s:Txt.slice nm (some 1) none=x
 z:nm.length≤1000
 n1:(nm==("call":Str))=false
 n2:(nm==("ret":Str))=false
 n3:(nm==("jmp":Str))=false
 n4:(nm==("jrcxz":Str))=false
 n5:(nm==("loop":Str))=false
 n6:(nm==("loope":Str))=false
 n7:(nm==("loopne":Str))=false
 c1:(Txt.charAt nm 0).isSome=true
theorem Jcc.j' {nm x:Str} (J:Jcc nm x):(Txt.item nm 0==("j":Str))=true:=beq_iff_eq.mpr J.j
theorem k_takenJ (X:Cx Q) {nm x:Str} (J:Jcc nm x) (h:Φ (.bool (condF x cf zf sf of)) (SC a R cf pf af zf sf of H z rip beg halt σ)):
  WG Q (n+4) 96 [.ref a.S,.str nm] (SC a R cf pf af zf sf of H z rip beg halt σ) Φ:=by
 refine F_t96.wg X rfl rfl fun env E=>?_
 have n3:=J.n3
 have n4:=J.n4
 have n5:=J.n5
 have n6:=J.n6
 have n7:=J.n7
 have z:=J.z
 k_call_by "go" 0
 refine e_slS (F_t96.cok X E) S_t96_0 ?_
 k_call_by "go" 0
 refine ⟨_,J.s,?_⟩
 k_call_by "go" 0
 refine' WG.sel ?s (k_holds X J.mem ?_)
 case s=>k_call_by "fr" 0
 refine ⟨_,?_,h⟩
 k_call_by "sel" 0
theorem k_jpJ (X:Cx Q) {nm x:Str} {k:Int} (J:Jcc nm x) (h:Φ (.bool true) (SC a R cf pf af zf sf of H z (if condF x cf zf sf of then pl (rip+k) else rip) beg halt σ)):
  WG Q (n+9) 97 [.ref a.S,insV nm [relO k]] (SC a R cf pf af zf sf of H z rip beg halt σ) Φ:=by
 refine F_t97.wg X rfl rfl fun env E=>?_
 have n1:=J.n1
 have n2:=J.n2
 have c1:=J.c1
 have j:=J.j'
 k_call_by "go" 0
 refine k_target X ?_
 k_call_by "go" 0
 refine k_takenJ X J ?_
 cases hb:condF x cf zf sf of with
 | true=>
  rw [hb] at h
  k_call_by "go" 0
  exact ⟨_,.refl,h⟩
 | false=>
  rw [hb] at h
  k_call_by "go" 0
  exact ⟨_,.refl,h⟩
end
end
section
open Builtin Builtin.ObjectAttr
set_option tactic.hygienic false
noncomputable def traps:List Str:=["ud2","int","int3","syscall","cpuid"]
structure Plain (nm:Str):Prop where
 hlt:(nm==("hlt":Str))=false
 trap:anyStr nm (traps.map .str)=some false
section
variable {Q:Bt} {n:Nat} {σ:St} {Φ:AV→St→Prop} {a:Ma} {R:Int→BV} {cf pf af zf sf of:Int} {H:Int→Option B8} {z:Nat} {rip beg:Int} {halt:Bool}
theorem k_hlt (X:Cx Q) {ds:AV} (h:Φ .none (SC a R cf pf af zf sf of H z rip beg true σ)):
  WG Q (n+1) 52 [.ref a.S,insV "hlt" [],ds] (SC a R cf pf af zf sf of H z rip beg halt σ) Φ:=by
 refine F_t52.wg X rfl rfl fun env E=>?_
 k_call_by "go" 0
 exact ⟨_,.refl,h⟩
theorem WG.mono {j:Nat} {args:List AV} {Φ':AV→St→Prop} (h:WG Q n j args σ Φ) (k:∀ d σ,Φ d σ→Φ' d σ):WG Q n j args σ Φ':=fun a ha=>(h a ha).mono k
noncomputable def Nos (Q:Bt) (n:Nat) (S:Addr) (nm:Str) (ops:List AV) (σ:St):List Nat→Prop
 | []=>True
 | i::is=>(∀ Φ':AV→St→Prop,Φ' (.bool false) σ→WG Q n i [.ref S,insV nm ops] σ Φ')∧Nos Q n S nm ops σ is
theorem Nos.at {S:Addr} {nm:Str} {ops:List AV} {is:List Nat} (h:Nos Q n S nm ops σ is) {i:Nat} (m:i∈is):∀ Φ':AV→St→Prop,Φ' (.bool false) σ→WG Q n i [.ref S,insV nm ops] σ Φ':=by
 induction is with
 | nil=>first|exact ffE m|exact tfE m|exact noE m|cases m
 | cons j is ih=>
  rcases List.mem_cons.mp m with rfl|m
  ·exact h.1
  ·exact ih h.2 m
theorem k_done (X:Cx Q) {nm:Str} {ops:List AV} {S:Addr} {pre:List Nat} {j:Nat} {post:List AV} (Pl:Plain nm) (hn:Nos Q n S nm ops σ pre)
  (h:WG Q n j [.ref S,insV nm ops] σ fun d σ'=>d=.bool true∧Φ .none σ'):WG Q (n+1) 52 [.ref S,insV nm ops,.lst (pre.map .fn++.fn j::post)] σ Φ:=by
 refine F_t52.wg X rfl rfl fun env E=>?_
 have p1:=Pl.hlt
 have p2:=Pl.trap
 k_call_by "go" 0
 refine w_split (xs:=traps) (by decide +kernel) (by decide +kernel) (by decide +kernel) fun D=>?_
 k_call_by "go" 0
 refine ⟨_,_,it_lst trivial,for_at (fun i ρ σ'=>i≤pre.length∧(∃ x,ρ=[some (.ref S),some (insV nm ops),some (.lst (pre.map .fn++.fn j::post)),x])∧Sel σ' σ) ⟨Nat.zero_le _,⟨_,rfl⟩,.skip .refl⟩ ?_ ?_⟩
 ·rintro i d ρ σ' Z e ⟨hi,⟨x,rfl⟩,hs⟩ zz
  rcases Nat.lt_or_ge i pre.length with q|q
  ·rw [List.getElem?_append_left (by rw [List.length_map];exact q),List.getElem?_map,List.getElem?_eq_getElem q] at e
   cases e
   k_call_by "go" 0
   refine WG.sel hs (hn.at (List.getElem_mem q) _ ?_)
   k_call_by "go" 0
   exact zz.next ⟨q,⟨_,rfl⟩,.refl⟩
  ·obtain rfl:=Nat.le_antisymm hi q
   rw [List.getElem?_append_right (Nat.le_of_eq (List.length_map _)),List.length_map,Nat.sub_self] at e
   cases e
   k_call_by "go" 0
   refine WG.sel hs (WG.mono h ?_)
   rintro _ σ₁ ⟨rfl,hΦ⟩
   k_call_by "go" 0
   exact zz.ret ⟨_,.refl,hΦ⟩
 ·rintro ρ σ' ⟨hi,_,_⟩
  rw [List.length_append,List.length_map,List.length_cons] at hi
  lia
noncomputable abbrev deedsV:AV:=.lst [.fn 90,.fn 71,.fn 93,.fn 97,.fn 123]
noncomputable def noM (x:Str):Bool:=!(x==("nop":Str))&&(!(x==("mov":Str))&&(!(x==("lea":Str))&&!(x==("xchg":Str))))
noncomputable def noA (x:Str):Bool:=anyStr x [.str "add",.str "adc",.str "sub",.str "sbb",.str "cmp",.str "and",.str "or",.str "xor",.str "test"]==some false&&(anyStr x [.str "inc",.str "dec",.str "not",.str "neg"]==some false&&(!(x==("xadd":Str))&&(!(x==("cmpxchg":Str)) &&
 (anyStr x [.str "clc",.str "stc",.str "cmc",.str "cld",.str "std",.str "lahf",.str "sahf"]==some false&&(!(Txt.startswith x "set")&&!(Txt.startswith x "cmov"))))))
noncomputable def noS (x:Str):Bool:=!(x==("push":Str))&&(!(x==("pop":Str))&&(!(x==("pushfq":Str))&&(!(x==("popfq":Str))&&!(x==("leave":Str)))))
noncomputable def plB (x:Str):Bool:=!(x==("hlt":Str))&&anyStr x (traps.map .str)==some false
theorem and2 {a b:Bool} (h:(a&&b)=true):a=true∧b=true:=Bool.and_eq_true_iff.mp h
theorem nb {a:Bool} (h:(!a)=true):a=false:=Bool.not_eq_true' _▸h
theorem plOf {x:Str} (h:plB x=true):Plain x:=⟨nb (and2 h).1,eq_of_beq (and2 h).2⟩
theorem no_move (X:Cx Q) {nm:Str} {ops:List AV} {S:Addr} (h:noM nm=true) {Φ:AV→St→Prop} (q:Φ (.bool false) σ):WG Q (n+1) 90 [.ref S,insV nm ops] σ Φ:=
 have ⟨h1,h⟩:=and2 h;have ⟨h2,h⟩:=and2 h;have ⟨h3,h4⟩:=and2 h
 k_moveNo X (nb h1) (nb h2) (nb h3) (nb h4) q
theorem no_arith (X:Cx Q) {nm:Str} {ops:List AV} {S:Addr} (h:noA nm=true) {Φ:AV→St→Prop} (q:Φ (.bool false) σ):WG Q (n+1) 71 [.ref S,insV nm ops] σ Φ:=
 have ⟨h1,h⟩:=and2 h;have ⟨h2,h⟩:=and2 h;have ⟨h3,h⟩:=and2 h;have ⟨h4,h⟩:=and2 h;have ⟨h5,h⟩:=and2 h;have ⟨h6,h7⟩:=and2 h
 k_arithNo X (eq_of_beq h1) (eq_of_beq h2) (nb h3) (nb h4) (eq_of_beq h5) (nb h6) (nb h7) q
theorem no_stack (X:Cx Q) {nm:Str} {ops:List AV} {S:Addr} (h:noS nm=true) {Φ:AV→St→Prop} (q:Φ (.bool false) σ):WG Q (n+1) 93 [.ref S,insV nm ops] σ Φ:=
 have ⟨h1,h⟩:=and2 h;have ⟨h2,h⟩:=and2 h;have ⟨h3,h⟩:=and2 h;have ⟨h4,h5⟩:=and2 h
 k_stackNo X (nb h1) (nb h2) (nb h3) (nb h4) (nb h5) q
end
end
section
open Builtin Builtin.ObjectAttr
set_option tactic.hygienic false
inductive Row where
 | movR (k:Int) (o:Op)
 | movM (b far:Int) (o:Op)
 | xchg (i j:Int)
 | lea (k b far s:Int)
 | leaX (k b x far s:Int)
 | bin (x:Str) (k:Int) (o:Op)
 | cmp (k:Int) (o:Op)
 | test (k:Int) (o:Op)
 | neg (k:Int)
 | dec (k:Int)
 | cmov (k:Int) (o:Op)
 | push (k:Int)
 | pop (k:Int)
 | leave
 | call (d:Int)
 | ret
 | retI (k:Int)
 | jmp (d:Int)
 | jcc (nm x:Str) (d:Int)
 | mul2 (k:Int) (o:Op)
 | mul3 (k j v:Int)
 | hlt
noncomputable def Row.nm:Row→Str
 | .movR ..|.movM ..=>"mov"
 | .xchg ..=>"xchg"
 | .lea ..|.leaX ..=>"lea"
 | .bin x ..=>x
 | .cmp ..=>"cmp"
 | .test ..=>"test"
 | .neg ..=>"neg"
 | .dec ..=>"dec"
 | .cmov ..=>"cmovl"
 | .push ..=>"push"
 | .pop ..=>"pop"
 | .leave=>"leave"
 | .call ..=>"call"
 | .ret|.retI ..=>"ret"
 | .jmp ..=>"jmp"
 | .jcc nm ..=>nm
 | .mul2 ..|.mul3 ..=>"imul"
 | .hlt=>"hlt"
noncomputable def Row.ops:Row→List AV
 | .movR k o=>[regO k,o.av]
 | .movM b far o=>[memO b .none far 64,o.av]
 | .xchg i j=>[regO i,regO j]
 | .lea k b far s=>[regO k,memO b .none far s]
 | .leaX k b x far s=>[regO k,memO b (regV x) far s]
 | .bin _ k o|.cmp k o|.test k o|.cmov k o|.mul2 k o=>[regO k,o.av]
 | .neg k|.dec k|.push k|.pop k=>[regO k]
 | .leave|.ret|.hlt=>[]
 | .call d|.jmp d|.jcc _ _ d=>[relO d]
 | .retI k=>[immO k]
 | .mul3 k j v=>[regO k,regO j,immO v]
noncomputable def rok (k:Int):Prop:=0≤k∧k < 16
noncomputable def Row.ok:Row→Prop
 | .movR k o=>rok k∧o.ok
 | .movM b _ o=>rok b∧o.ok
 | .xchg i j=>rok i∧rok j
 | .lea k b _ _=>rok k∧rok b
 | .leaX k b x _ _=>rok k∧rok b∧rok x
 | .bin x k o=>x∈bops∧rok k∧o.ok
 | .cmp k o|.test k o|.cmov k o|.mul2 k o=>rok k∧o.ok
 | .neg k|.dec k|.push k|.pop k=>rok k
 | .jcc nm x _=>Jcc nm x∧(plB nm&&(noM nm&&(noA nm&&noS nm)))=true
 | .mul3 k j _=>rok k∧rok j
 | .leave|.ret|.hlt|.call _|.jmp _|.retI _=>True
noncomputable def Row.does (r:Row) (R:Int→BV) (cf zf sf of:Int) (H:Int→Option B8) (rp:BV) (Q:(Int→BV)→Int→Int→Int→Int→(Int→Option B8)→BV→Bool→Prop):Prop:=
 match r with
 | .movR k o=>Q (upd R k (rdO R H o)) cf zf sf of H rp false
 | .movM b far o=>Q R cf zf sf of (wr H (pl (far+(R b).toNat)) (rdO R H o)) rp false
 | .xchg i j=>Q (upd (upd R i (R j)) j (R i)) cf zf sf of H rp false
 | .lea k b far _=>Q (upd R k (BitVec.ofInt 64 (far+(R b).toNat))) cf zf sf of H rp false
 | .leaX k b x far _=>Q (upd R k (BitVec.ofInt 64 (far+(R b).toNat+(R x).toNat*1))) cf zf sf of H rp false
 | .bin x k o=>∀ cf zf sf of,Q (upd R k (bop x (R k) (rdO R H o))) cf zf sf of H rp false
 | .cmp k o=>Q R (cfI (R k) (rdO R H o)) (zfI (R k - rdO R H o)) (sgn (R k - rdO R H o)) (ofI (R k) (rdO R H o)) H rp false
 | .test k o=>∀ cf sf of,Q R cf (zfI (R k &&& rdO R H o)) sf of H rp false
 | .neg k=>∀ cf zf sf of,Q (upd R k (0 - R k)) cf zf sf of H rp false
 | .dec k=>∀ cf zf sf of,Q (upd R k (R k - 1)) cf zf sf of H rp false
 | .cmov k o=>Q (upd R k (if condF "l" cf zf sf of then rdO R H o else R k)) cf zf sf of H rp false
 | .push k=>Q (upd R 4 (R 4 - 8)) cf zf sf of (wr H ((R 4 - 8).toNat:Int) (R k)) rp false
 | .pop k=>Q (upd (upd R 4 (R 4+8)) k (rd H ((R 4).toNat:Int))) cf zf sf of H rp false
 | .leave=>Q (upd (upd (upd R 4 (R 5)) 4 (R 5+8)) 5 (rd H ((R 5).toNat:Int))) cf zf sf of H rp false
 | .call d=>Q (upd R 4 (R 4 - 8)) cf zf sf of (wr H ((R 4 - 8).toNat:Int) rp) (BitVec.ofInt 64 ((rp.toNat:Int)+d)) false
 | .ret=>Q (upd R 4 (R 4+8)) cf zf sf of H (rd H ((R 4).toNat:Int)) false
 | .retI k=>Q (upd (upd R 4 (R 4+8)) 4 (BitVec.ofInt 64 (((R 4+8).toNat:Int)+k))) cf zf sf of H (rd H ((R 4).toNat:Int)) false
 | .jmp d=>Q R cf zf sf of H (BitVec.ofInt 64 ((rp.toNat:Int)+d)) false
 | .jcc _ x d=>Q R cf zf sf of H (if condF x cf zf sf of then BitVec.ofInt 64 ((rp.toNat:Int)+d) else rp) false
 | .mul2 k o=>∀ cf zf sf of,Q (upd R k (R k*rdO R H o)) cf zf sf of H rp false
 | .mul3 k j v=>∀ cf zf sf of,Q (upd R k (BitVec.ofInt 64 v*R j)) cf zf sf of H rp false
 | .hlt=>Q R cf zf sf of H rp true
section
variable {Q:Bt} {n:Nat} {σ:St} {Φ:AV→St→Prop} {S:Addr} {nm:Str} {ops:List AV}
theorem done_move (X:Cx Q) (Pl:plB nm=true) (h:WG Q n 90 [.ref S,insV nm ops] σ fun d σ'=>d=.bool true∧Φ .none σ'):WG Q (n+1) 52 [.ref S,insV nm ops,deedsV] σ Φ:=
 k_done X (pre:=[]) (plOf Pl) trivial h
theorem done_arith (X:Cx Q) (M:(plB nm&&noM nm)=true) (h:WG Q (n+1) 71 [.ref S,insV nm ops] σ fun d σ'=>d=.bool true∧Φ .none σ'):WG Q (n+2) 52 [.ref S,insV nm ops,deedsV] σ Φ:=
 k_done X (pre:=[90]) (plOf (and2 M).1) ⟨fun _ q=>no_move X (and2 M).2 q,trivial⟩ h
theorem done_stack (X:Cx Q) (M:(plB nm&&(noM nm&&noA nm))=true) (h:WG Q (n+1) 93 [.ref S,insV nm ops] σ fun d σ'=>d=.bool true∧Φ .none σ'):WG Q (n+2) 52 [.ref S,insV nm ops,deedsV] σ Φ:=
 have ⟨Pl,h1⟩:=and2 M;have ⟨h1,h2⟩:=and2 h1
 k_done X (pre:=[90,71]) (plOf Pl) ⟨fun _ q=>no_move X h1 q,fun _ q=>no_arith X h2 q,trivial⟩ h
theorem done_jump (X:Cx Q) (M:(plB nm&&(noM nm&&(noA nm&&noS nm)))=true) (h:WG Q (n+1) 97 [.ref S,insV nm ops] σ fun d σ'=>d=.bool true∧Φ .none σ'):WG Q (n+2) 52 [.ref S,insV nm ops,deedsV] σ Φ:=
 have ⟨Pl,h1⟩:=and2 M;have ⟨h1,h2⟩:=and2 h1;have ⟨h2,h3⟩:=and2 h2
 k_done X (pre:=[90,71,93]) (plOf Pl) ⟨fun _ q=>no_move X h1 q,fun _ q=>no_arith X h2 q,fun _ q=>no_stack X h3 q,trivial⟩ h
theorem done_prod (X:Cx Q) (h:WG Q (n+1) 123 [.ref S,insV "imul" ops] σ fun d σ'=>d=.bool true∧Φ .none σ'):WG Q (n+2) 52 [.ref S,insV "imul" ops,deedsV] σ Φ:=
 k_done X (pre:=[90,71,93,97]) (plOf (by decide +kernel)) ⟨fun _ q=>no_move X (by decide +kernel) q,fun _ q=>no_arith X (by decide +kernel) q,fun _ q=>no_stack X (by decide +kernel) q,fun _ q=>k_jumpNo X q,trivial⟩ h
end
theorem bop_ok {x:Str} (hx:x∈bops):(plB x&&noM x)=true:=List.all_eq_true.mp (show bops.all (fun x=>plB x&&noM x)=true by decide +kernel) x hx
section
variable {Q:Bt} {n:Nat} {σ:St} {Φ:AV→St→Prop} {a:Ma} {R:Int→BV} {cf pf af zf sf of:Int} {H:Int→Option B8} {z:Nat} {rip beg:Int}
theorem k_row (X:Cx Q) (r:Row) (ok:r.ok) (rp:BV) (hz:z≤100000)
  (h:r.does R cf zf sf of H rp fun R cf zf sf of H rp hl=>∀ pf af z',z'≤z+8→Φ .none (SC a R cf pf af zf sf of H z' (rp.toNat:Int) beg hl σ)):
  WG Q (n+11) 52 [.ref a.S,insV r.nm r.ops,deedsV] (SC a R cf pf af zf sf of H z (rp.toNat:Int) beg false σ) Φ:=by
 have z0:z≤z+8:=by lia
 have z8:z+8≤z+8:=Nat.le_refl _
 cases r with
 | movR k o=>exact done_move X (by kernel_rfl) (k_mvR X ok.1.1 ok.1.2 ok.2 ⟨rfl,h _ _ _ z0⟩)
 | movM b far o=>exact done_move X (by kernel_rfl) (k_mvM X ok.1.1 ok.1.2 ok.2 hz ⟨rfl,h _ _ _ z8⟩)
 | xchg i j=>exact done_move X (by kernel_rfl) (k_mvXchg X ok.1.1 ok.1.2 ok.2.1 ok.2.2 ⟨rfl,h _ _ _ z0⟩)
 | lea k b far s=>exact done_move X (by kernel_rfl) (k_mvLea X ok.1.1 ok.1.2 ok.2.1 ok.2.2 ⟨rfl,h _ _ _ z0⟩)
 | leaX k b x far s=>exact done_move X (by kernel_rfl) (k_mvLeaX X ok.1.1 ok.1.2 ok.2.1.1 ok.2.1.2 ok.2.2.1 ok.2.2.2 ⟨rfl,h _ _ _ z0⟩)
 | bin x k o=>exact done_arith X (bop_ok ok.1) (k_arTwo X ok.1 ok.2.1.1 ok.2.1.2 ok.2.2 fun _ _ _ _ _ _=>⟨rfl,h _ _ _ _ _ _ _ z0⟩)
 | cmp k o=>exact done_arith X (by kernel_rfl) (k_arCmp X ok.1.1 ok.1.2 ok.2 fun _ _=>⟨rfl,h _ _ _ z0⟩)
 | test k o=>exact done_arith X (by kernel_rfl) (k_arTest X ok.1.1 ok.1.2 ok.2 fun _ _ _ _ _=>⟨rfl,h _ _ _ _ _ _ z0⟩)
 | neg k=>exact done_arith X (by kernel_rfl) (k_arNeg X ok.1 ok.2 fun _ _ _ _ _ _=>⟨rfl,h _ _ _ _ _ _ _ z0⟩)
 | dec k=>exact done_arith X (by kernel_rfl) (k_arDec X ok.1 ok.2 fun _ _ _ _ _ _=>⟨rfl,h _ _ _ _ _ _ _ z0⟩)
 | cmov k o=>exact done_arith X (by kernel_rfl) (k_arCmov X ok.1.1 ok.1.2 ok.2 ⟨rfl,h _ _ _ z0⟩)
 | push k=>exact done_stack X (by kernel_rfl) (k_stPush X ok.1 ok.2 hz ⟨rfl,h _ _ _ z8⟩)
 | pop k=>exact done_stack X (by kernel_rfl) (k_stPop X ok.1 ok.2 ⟨rfl,h _ _ _ z0⟩)
 | leave=>exact done_stack X (by kernel_rfl) (k_stLeave X ⟨rfl,h _ _ _ z0⟩)
 | call d=>exact done_jump X (by kernel_rfl) (k_jpCall X hz ⟨rfl,h _ _ _ z8⟩)
 | ret=>exact done_jump X (by kernel_rfl) (k_jpRet X ⟨rfl,h _ _ _ z0⟩)
 | retI k=>exact done_jump X (by kernel_rfl) (k_jpRetI X ⟨rfl,h _ _ _ z0⟩)
 | jmp d=>exact done_jump X (by kernel_rfl) (k_jpJmp X ⟨rfl,h _ _ _ z0⟩)
 | jcc nm x d=>
  refine done_jump X ok.2 (k_jpJ X ok.1 ⟨rfl,?_⟩)
  have:=h pf af z z0
  cases hb:condF x cf zf sf of with
  | true=>rw [hb] at this;exact this
  | false=>rw [hb] at this;exact this
 | mul2 k o=>exact done_prod X (k_products2 X ok.1.1 ok.1.2 ok.2 fun _ _ _ _ _ _=>⟨rfl,h _ _ _ _ _ _ _ z0⟩)
 | mul3 k j v=>exact done_prod X (k_products3 X ok.1.1 ok.1.2 ok.2.1 ok.2.2 fun _ _ _ _ _ _=>⟨rfl,h _ _ _ _ _ _ _ z0⟩)
 | hlt=>exact k_hlt X (h _ _ _ z0)
end
end
section
open Builtin Builtin.ObjectAttr
set_option tactic.hygienic false
section
variable {Q:Bt} {n:Nat} {σ:St} {Φ:AV→St→Prop} {a:Ma} {R:Int→BV} {cf pf af zf sf of:Int} {H:Int→Option B8} {z:Nat} {rip beg:Int}
theorem Row.does.mono {r:Row} {R:Int→BV} {cf zf sf of:Int} {H:Int→Option B8} {rp:BV} {P P':(Int→BV)→Int→Int→Int→Int→(Int→Option B8)→BV→Bool→Prop} (h:r.does R cf zf sf of H rp P) (k:∀ R cf zf sf of H rp hl,P R cf zf sf of H rp hl→P' R cf zf sf of H rp hl):r.does R cf zf sf of H rp P':=by
 cases r<;>first|exact k _ _ _ _ _ _ _ _ h|exact fun _ _ _ _=>k _ _ _ _ _ _ _ _ (h _ _ _ _)|exact fun _ _ _=>k _ _ _ _ _ _ _ _ (h _ _ _)
theorem k_proceed (X:Cx Q) (r:Row) (ok:r.ok) (rp:BV) {wd:Int} (hz:z≤100000)
  (h:r.does R cf zf sf of H (BitVec.ofInt 64 ((rp.toNat:Int)+wd)) fun R cf zf sf of H rp hl=>∀ pf af z' beg,z'≤z+8→Φ .none (SC a R cf pf af zf sf of H z' (rp.toNat:Int) beg hl σ)):
  WG Q (n+12) 53 [.ref a.S,decV (insV r.nm r.ops) wd,deedsV] (SC a R cf pf af zf sf of H z (rp.toNat:Int) beg false σ) Φ:=by
 refine F_t53.wg X rfl rfl fun env E=>?_
 k_call_by "go" 0
 refine k_wrap64 X ?_
 k_call_by "go" 0
 refine k_row X r ok _ hz ?_
 refine h.mono fun R cf zf sf of H rp hl q pf af z' hz'=>?_
 k_call_by "go" 0
 exact ⟨_,.refl,q _ _ _ _ hz'⟩
theorem k_need (X:Cx Q) (h:Φ .none (SC a R cf pf af zf sf of H z rip beg false σ)):
  WG Q (n+1) 54 [.ref a.S] (SC a R cf pf af zf sf of H z rip beg false σ) Φ:=by
 refine F_t54.wg X rfl rfl fun env E=>?_
 k_call_by "go" 0
 exact ⟨_,.refl,h⟩
theorem k_step (X:Cx Q) (r:Row) (ok:r.ok) (rp:BV) {wd:Int} {pa:Addr} {m:Int→Option AV} {kz:Nat} (hz:z≤100000) (hm:m (rp.toNat:Int)=some (decV (insV r.nm r.ops) wd))
  (h:r.does R cf zf sf of H (BitVec.ofInt 64 ((rp.toNat:Int)+wd)) fun R cf zf sf of H rp hl=>∀ d pf af z' beg,z'≤z+8→Φ d (SC a R cf pf af zf sf of H z' (rp.toNat:Int) beg hl ((pa,.zd m kz)::σ))):
  WG Q (n+13) 55 [.ref a.S,.ref pa,deedsV] (SC a R cf pf af zf sf of H z (rp.toNat:Int) beg false ((pa,.zd m kz)::σ)) Φ:=by
 refine F_t55.wg X rfl rfl fun env E=>?_
 k_call_by "go" 0
 refine k_need X ?_
 k_call_by "go" 0
 refine cs_ninZ X (m:=m) (z:=kz) (by k_call_by "mem" 0) ?_
 k_call_by "go" 0
 refine br_f (by rw [hm];rfl) ?_
 k_call_by "go" 0
 refine ⟨_,sub_zd (m:=m) (z:=kz) (by k_call_by "mem" 0) hm,?_⟩
 k_call_by "go" 0
 refine k_proceed X r ok rp hz ?_
 refine h.mono fun R cf zf sf of H rp hl q pf af z' beg hz'=>?_
 k_call_by "go" 0
 exact ⟨_,.refl,q _ _ _ _ _ hz'⟩
end
end
section
open Builtin Builtin.ObjectAttr
set_option tactic.hygienic false
noncomputable abbrev adv:Stmt:=sA (bdS (st 124)) 10
section
variable {Q:Bt} {n:Nat} {σ:St} {Φ:AV→St→Prop} {a:Ma} {R:Int→BV} {cf pf af zf sf of:Int} {H:Int→Option B8} {z:Nat} {rip beg:Int}
theorem k_adv (X:Cx Q) {fa cp pa:Addr} (r:Row) (ok:r.ok) (rp:BV) {wd:Int} {m:Int→Option AV} {kz:Nat} (hz:z≤100000) (hm:m (rp.toNat:Int)=some (decV (insV r.nm r.ops) wd))
  (h:r.does R cf zf sf of H (BitVec.ofInt 64 ((rp.toNat:Int)+wd)) fun R cf zf sf of H rp hl=>∀ d pf af z' beg,z'≤z+8→Φ d (SC a R cf pf af zf sf of H z' (rp.toNat:Int) beg hl ((pa,.zd m kz)::(fa,.fnc (prS adv) (.stmts (bdS adv)) (scS adv) [("program",cp)])::(cp,.cel (some (.ref pa)))::σ))):
  WC Q (n+14) (.ref fa) [.ref a.S] (SC a R cf pf af zf sf of H z (rp.toNat:Int) beg false ((pa,.zd m kz)::(fa,.fnc (prS adv) (.stmts (bdS adv)) (scS adv) [("program",cp)])::(cp,.cel (some (.ref pa)))::σ)) Φ:=by
 refine WC.thin (L_t124_3.wc X (cl:=[("program",cp)]) (ca:=[cp]) B_t124_3 (by k_call_by "mem" 0) rfl rfl rfl fun env E=>?_)
 k_call_by "go" 0
 refine k_step X r ok rp hz hm ?_
 refine h.mono fun R cf zf sf of H rp hl q d pf af z' beg hz'=>?_
 exact ⟨_,.refl,q _ _ _ _ _ hz'⟩
end
inductive RunS1 (m:Int→Option (Row × Int)) (rp:BV) (P:Row→BV→Prop):Prop
 | mk (r:Row) (wd:Int) (e:m (rp.toNat:Int)=some (r,wd)) (ok:r.ok) (d:P r (BitVec.ofInt 64 ((rp.toNat:Int)+wd)))
noncomputable def Run (m:Int→Option (Row × Int)):Nat→(Int→BV)→Int→Int→Int→Int→(Int→Option B8)→BV→((Int→BV)→(Int→Option B8)→Prop)→Prop
 | 0,_,_,_,_,_,_,_,_=>False
 | k+1,R,cf,zf,sf,of,H,rp,Q=>RunS1 m rp fun r rp=>r.does R cf zf sf of H rp fun R cf zf sf of H rp hl=>(hl=true→Q R H)∧(hl=false→Run m k R cf zf sf of H rp Q)
noncomputable def progM (m:Int→Option (Row × Int)):Int→Option AV:=fun k=>(m k).map fun x=>decV (insV x.1.nm x.1.ops) x.2
inductive GoI (m:Int→Option (Row × Int)) (P:(Int→BV)→(Int→Option B8)→Prop) (a:Ma) (pa fa cp L:Addr) (kz:Nat) (σ:St) (j:Nat):Rho→St→Prop
 | mk (R:Int→BV) (cf pf af zf sf of:Int) (H:Int→Option B8) (z:Nat) (rp:BV) (beg:Int) (hl:Bool) (cnt:Int) (hc:cnt+(j:Int)≤1000) (hz:z+8*j≤100000) (h1:hl=true→P R H) (h2:hl=false→Run m j R cf zf sf of H rp P):
  GoI m P a pa fa cp L kz σ j [some (.ref a.S),some (.int 1000),some (.ref L),some (.ref fa),some (.int cnt)] (SC a R cf pf af zf sf of H z (rp.toNat:Int) beg hl ((pa,.zd (progM m) kz)::(fa,.fnc (prS adv) (.stmts (bdS adv)) (scS adv) [("program",cp)])::(cp,.cel (some (.ref pa)))::(L,.lst [])::σ))
section
variable {Q:Bt} {n:Nat} {σ:St} {Φ:AV→St→Prop} {a:Ma} {R:Int→BV} {cf pf af zf sf of:Int} {H:Int→Option B8} {z:Nat} {rip beg:Int}
theorem k_go (X:Cx Q) {fa cp pa L:Addr} {m:Int→Option (Row × Int)} {kz k:Nat} {rp:BV} {P:(Int→BV)→(Int→Option B8)→Prop} (hk:k≤1000) (hz:z+8*k≤100000) (hr:Run m k R cf zf sf of H rp P)
  (h:∀ R cf pf af zf sf of H z rp beg d,P R H→Φ d (SC a R cf pf af zf sf of H z rp beg true ((pa,.zd (progM m) kz)::(fa,.fnc (prS adv) (.stmts (bdS adv)) (scS adv) [("program",cp)])::(cp,.cel (some (.ref pa)))::(L,.lst [])::σ))):
  WG Q (n+15) 56 [.ref a.S,.int 1000,.ref L,.ref fa] (SC a R cf pf af zf sf of H z (rp.toNat:Int) beg false ((pa,.zd (progM m) kz)::(fa,.fnc (prS adv) (.stmts (bdS adv)) (scS adv) [("program",cp)])::(cp,.cel (some (.ref pa)))::(L,.lst [])::σ)) Φ:=by
 refine F_t56.wg X rfl rfl fun env E=>?_
 k_call_by "go" 0
 refine ⟨GoI m P a pa fa cp L kz σ,k,⟨R,cf,pf,af,zf,sf,of,H,z,rp,beg,false,0,by lia,hz,(by intro q;cases q),fun _=>hr⟩,?_⟩
 rintro mm ρ' σ' ⟨R,cf,pf,af,zf,sf,of,H,z,rp,beg,hl,cnt,hc,hz,h1,h2⟩
 cases hl with
 | true=>
  have h1:=h1 rfl
  k_call_by "go" 0
  refine br_ (fun _=>?_) fun _=>?_
  ·k_call_by "go" 0
   exact ⟨_,.refl,h _ _ _ _ _ _ _ _ _ _ _ _ h1⟩
  ·k_call_by "go" 0
   exact ⟨_,.refl,h _ _ _ _ _ _ _ _ _ _ _ _ h1⟩
 | false=>
  have h2:=h2 rfl
  cases mm with
  | zero=>exact h2.elim
  | succ j=>
   obtain ⟨r,wd,q1,q2,q3⟩:=h2
   have hlt:cnt < 1000:=by lia
   have q1':progM m (rp.toNat:Int)=some (decV (insV r.nm r.ops) wd):=by unfold progM;rw [q1];rfl
   k_call_by "go" 0
   refine k_adv X r q2 rp (by lia) q1' (q3.mono fun R' cf' zf' sf' of' H' rp' hl' qq d pf' af' z' beg' hz'=>?_)
   k_call_by "go" 0
   refine cs_inI (by k_call_by "mem" 0) rfl ?_
   k_call_by "go" 0
   exact ⟨j,Nat.lt_succ_self _,.mk R' cf' pf' af' zf' sf' of' H' z' rp' beg' hl' (cnt+1) (by lia) (by lia) qq.1 qq.2⟩
end
end
section
open Builtin Builtin.ObjectAttr
set_option tactic.hygienic false
section
variable {Q:Bt} {n:Nat} {σ:St} {Φ:AV→St→Prop}
theorem k_Reg (X:Cx Q) {x:AV} (h:∀ a,Φ (.ref a) ((a,.inst 74 [.str "reg",x])::σ)):WC Q (n+3) (.ref (cT 74)) [x] σ Φ:=by
 refine F_i74.wk X rfl rfl fun a env E=>?_
 k_call_by "go" 0
 refine F_i73.wi X rfl fun env E=>?_
 k_call_by "go" 0
 exact ⟨rfl,h a⟩
theorem k_Imm (X:Cx Q) {x:AV} (h:∀ a,Φ (.ref a) ((a,.inst 75 [.str "imm",x,.str ""])::σ)):WC Q (n+3) (.ref (cT 75)) [x] σ Φ:=by
 refine F_i75.wk X (ds:=[.str ""]) (.head _) rfl rfl rfl fun a env E=>?_
 k_call_by "go" 0
 refine F_i73.wi X rfl fun env E=>?_
 k_call_by "go" 0
 exact ⟨rfl,h a⟩
theorem k_Rel (X:Cx Q) {x:AV} (h:∀ a,Φ (.ref a) ((a,.inst 76 [.str "rel",x,.str ""])::σ)):WC Q (n+3) (.ref (cT 76)) [x] σ Φ:=by
 refine F_i76.wk X (ds:=[.str ""]) (.tail _ (.head _)) rfl rfl rfl fun a env E=>?_
 k_call_by "go" 0
 refine F_i73.wi X rfl fun env E=>?_
 k_call_by "go" 0
 exact ⟨rfl,h a⟩
theorem k_Mem5 (X:Cx Q) {x1 x2 x3 x4 x5:AV} (h:∀ a,Φ (.ref a) ((a,.inst 77 [.str "mem",x1,x2,x3,x4,x5,.str "",.str ""])::σ)):WC Q (n+3) (.ref (cT 77)) [x1,x2,x3,x4,x5] σ Φ:=by
 refine F_i77b.wk X (ds:=[.int 0,.str "",.str ""]) (.tail _ (.tail _ (.head _))) rfl rfl rfl fun a env E=>?_
 k_call_by "go" 0
 refine F_i73.wi X rfl fun env E=>?_
 k_call_by "go" 0
 exact ⟨rfl,h a⟩
theorem k_Mem4 (X:Cx Q) {x1 x2 x3 x4:AV} (h:∀ a,Φ (.ref a) ((a,.inst 77 [.str "mem",x1,x2,x3,x4,.int 0,.str "",.str ""])::σ)):WC Q (n+3) (.ref (cT 77)) [x1,x2,x3,x4] σ Φ:=by
 refine F_i77a.wk X (ds:=[.int 0,.str "",.str ""]) (.tail _ (.tail _ (.head _))) rfl rfl rfl fun a env E=>?_
 k_call_by "go" 0
 refine F_i73.wi X rfl fun env E=>?_
 k_call_by "go" 0
 exact ⟨rfl,h a⟩
theorem k_Instruction (X:Cx Q) {x:AV} {l:List AV} (hz:l.length≤1000) (h:∀ a,Φ (.ref a) ((a,.inst 78 [x,.tup l,.str ""])::σ)):WC Q (n+3) (.ref (cT 78)) [x,.lst l] σ Φ:=by
 refine F_i78.wk X (ds:=[.str ""]) (.tail _ (.tail _ (.tail _ (.head _)))) rfl rfl rfl fun a env E=>?_
 k_call_by "go" 0
 refine w_tupF hz ?_
 k_call_by "go" 0
 exact ⟨rfl,h a⟩
theorem k_Decoded (X:Cx Q) {x y z u:AV} (h:∀ a,Φ (.ref a) ((a,.inst 58 [x,y,z,u])::σ)):WC Q (n+2) (.ref (cT 58)) [x,y,z,u] σ Φ:=by
 refine F_i58.wk X rfl rfl fun a env E=>?_
 k_call_by "go" 0
 exact ⟨rfl,h a⟩
theorem k_Flags (X:Cx Q) (h:∀ a,Φ (.ref a) ((a,.inst 24 (fl7 0 0 0 0 0 0))::σ)):WC Q (n+2) (.ref (cT 24)) [] σ Φ:=by
 refine F_i24.wk X rfl rfl fun a env E=>?_
 k_call_by "go" 0
 exact ⟨rfl,h a⟩
theorem k_lawr (X:Cx Q) {k:Int} (h0:0≤k) (h1:k < 8) (h:Φ (regO k) σ):WG Q (n+5) 111 [.int k] σ Φ:=by
 refine F_t111.wg X rfl rfl fun env E=>?_
 k_call_by "go" 0
 refine k_gpr X h0 h1 ?_
 k_call_by "go" 0
 refine WC.freeze (k_Reg X fun a=>⟨a,_,_,_,rfl,.here,rfl,?_⟩)
 exact ⟨_,.refl,h⟩
theorem k_lawat (X:Cx Q) {b far:Int} (h0:0≤b) (h1:b < 8) (h:Φ (memO b .none far 64) σ):WG Q (n+5) 112 [.int b,.int far] σ Φ:=by
 refine F_t112.wg X rfl rfl fun env E=>?_
 k_call_by "go" 0
 refine k_gpr X h0 h1 ?_
 k_call_by "go" 0
 refine WC.freeze (k_Mem5 X fun a=>⟨a,_,_,_,rfl,.here,rfl,?_⟩)
 exact ⟨_,.refl,h⟩
end
end
section
open Builtin Builtin.ObjectAttr
set_option tactic.hygienic false
@[reducible] noncomputable def MC (mk rw pn:Addr) (rows:List AV) (marks:Int) (tidy:Bool) (cells:List AV) (s g:Int) (σ:St):St:=
 (mk,.sd [("pen",.ref pn),("rows",.ref rw),("marks",.int marks),("tidy",.bool tidy)])::(rw,.lst rows)::(pn,.lst [.lst cells,.int s,.int g])::σ
@[reducible] noncomputable def rowV (name:Str) (ops:List AV) (mark:Int):AV:=.tup [.str name,.lst ops,.int mark]
section
variable {Q:Bt} {n:Nat} {σ:St} {Φ:AV→St→Prop} {mk rw pn:Addr} {rows cells:List AV} {marks s g:Int} {tidy:Bool}
theorem k_lawrow (X:Cx Q) {name:Str} {ops:List AV} (hz:rows.length≤2^20) (h:Φ .none (MC mk rw pn (rows++[rowV name ops (-1)]) marks tidy cells s g σ)):
  WG Q (n+1) 113 [.ref mk,.str name,.lst ops] (MC mk rw pn rows marks tidy cells s g σ) Φ:=by
 refine F_t113.wg X rfl rfl fun env E=>?_
 k_call_by "go" 0
 k_call_by "app" 0
 k_call_by "go" 0
 exact ⟨_,.refl,h⟩
theorem k_lawjump (X:Cx Q) {name:Str} {mark:Int} (hz:rows.length≤2^20) (h:Φ .none (MC mk rw pn (rows++[rowV name [] mark]) marks tidy cells s g σ)):
  WG Q (n+1) 114 [.ref mk,.str name,.int mark] (MC mk rw pn rows marks tidy cells s g σ) Φ:=by
 refine F_t114.wg X rfl rfl fun env E=>?_
 k_call_by "go" 0
 k_call_by "app" 0
 k_call_by "go" 0
 exact ⟨_,.refl,h⟩
theorem k_lawmark (X:Cx Q) (h:Φ (.int (marks+1)) (MC mk rw pn rows (marks+1) tidy cells s g σ)):
  WG Q (n+1) 115 [.ref mk] (MC mk rw pn rows marks tidy cells s g σ) Φ:=by
 refine F_t115.wg X rfl rfl fun env E=>?_
 k_call_by "go" 0
 exact ⟨_,.refl,h⟩
end
end
section
open Builtin Builtin.ObjectAttr
set_option tactic.hygienic false
section
variable {Q:Bt} {n:Nat} {σ:St} {Φ:AV→St→Prop}
theorem k_signedL (X:Cx Q) {v:BV} (h:Φ (.int v.toInt) σ):WG Q (n+1) 107 [.int (v.toNat:Int)] σ Φ:=by
 refine F_t107.wg X rfl rfl fun env E=>?_
 have hi:=BitVec.toInt_eq_toNat_cond v
 have hlt:=v.isLt
 by_cases q:(2:Int)^(63:Int).toNat≤(v.toNat:Int)
 ·have q':(2:Int)^63≤(v.toNat:Int):=q
  have e:(v.toNat:Int) - 2^(64:Int).toNat=v.toInt:=by
   rw [hi,if_neg (by lia)]
   rfl
  k_call_by "go" 0
  refine ⟨_,.refl,?_⟩
  rw [e]
  exact h
 ·have q':¬ (2:Int)^63≤(v.toNat:Int):=q
  have e:(v.toNat:Int)=v.toInt:=by
   rw [hi,if_pos (by lia)]
  k_call_by "go" 0
  refine ⟨_,.refl,?_⟩
  rw [e]
  exact h
end
end
section
open Builtin Builtin.ObjectAttr
set_option tactic.hygienic false
section
variable {Q:Bt} {n:Nat} {σ:St} {Φ:AV→St→Prop}
theorem k_draw (X:Cx Q) {pn:Addr} {cells:List Int} {s g many:Int} (hm:0 < many) (hM:many≤2^64) {u:Nat} (hp:Pen cells (u+1) s)
  (h:∀ d s' g',0≤d→d < many→Pen cells u s'→Φ (.int d) ((pn,.lst (penL cells s' g'))::σ)):
  WG Q (n+1) 100 [.ref pn,.int many] ((pn,.lst (penL cells s g))::σ) Φ:=by
 refine F_t100.wg X rfl rfl fun env E=>?_
 obtain ⟨hc,h0,h1⟩:=id hp
 have h1:s≤100000:=by lia
 have hne:many≠0:=by lia
 have hl2:=log2_9000 hm hM
 have fin:∀ (x:Int) s' g',s≤s'→s'≤s+1→Φ (.int (x.fmod many)) ((pn,.lst (penL cells s' g'))::σ):=fun x s' g' a b=>h _ _ _ (fmod_bd hm).1 (fmod_bd hm).2 (hp.on a b)
 have s0:s≤s+1:=by lia
 have s1:s+1≤s+1:=by lia
 by_cases hg:0 < g
 ·k_call_by "go" 0
  exact ⟨_,.refl,fin _ _ _ (Int.le_refl s) s0⟩
 ·k_call_by "g1" 0
  k_call_by "g1" 0
  k_call_by "g1" 0
  k_call_by "g1" 0
  refine cutX (fun ρ σ'=>∃ D l v,ρ=[some (.ref pn),some (.int many),none,some (.int s),some (.int v),none,none]∧σ'=(D,.lst l)::(pn,.lst (penL cells (s+1) g))::σ) (fun Z zz _=>?_) ?_
  ·k_call_by "go" 0
   refine e_slL (F_t100.cok X E) S_t100_0 ?_
   k_call_by "go" 0
   refine ⟨cells.map .int,by decide,.inl rfl,by rw [List.length_map];lia,fun D=>?_⟩
   rw [← List.map_take]
   k_call_by "go" 0
   refine w_sum (.head _) ?_
   k_call_by "go" 0
   exact zz _ _ ⟨D,_,_,rfl,rfl⟩
  rintro ρ' σ' ⟨D,l,v,rfl,rfl⟩
  refine cutX (fun ρ σ'=>∃ A v,ρ=[some (.ref pn),some (.int many),none,some (.int s),some (.int v),none,none]∧σ'=(A,.lst [])::(D,.lst l)::(pn,.lst (penL cells (s+1) g))::σ) (fun Z zz _=>?_) ?_
  ·k_call_by "go" 0
   intro A
   k_call_by "go" 0
   refine cs_neF (ms:=[]) (.head _) ?_
   k_call_by "go" 0
   refine br_ (fun q=>?_) fun q=>?_
   ·have hl0:0 < cells.length:=List.length_pos_iff.mpr (by intro e;subst e;simp at q)
    obtain ⟨b0,b1⟩:=fmod_bd (x:=s) (many:=cells.length) (by lia)
    k_call_by "go" 0
    refine w_lenF (by rw [List.length_map];lia) ?_
    rw [List.length_map]
    k_call_by "go" 0
    refine ⟨_,sub_lstF b0 (by lia) (cell_get b0 b1),?_⟩
    exact zz _ _ ⟨A,_,rfl,rfl⟩
   ·exact zz _ _ ⟨A,_,rfl,rfl⟩
  rintro ρ' σ' ⟨A,v,rfl,rfl⟩
  have v1:=fmod_bd (x:=v) (many:=2147483587) (by decide)
  have m1:=fmod_bd (x:=(v.fmod 2147483587+58153*s+5119)^(5:Int).toNat) (many:=2147483629) (by decide)
  have mb:=mix_bd m1.1 m1.2 h0 h1
  k_call_by "go" 0
  refine w_lenF (by rw [List.length_map];lia) ?_
  k_call_by "go" 0
  refine br_ (fun q1=>?_) fun q1=>?_
  ·k_call_by "go" 0
   refine br_ (fun q2=>?_) fun q2=>?_
   ·k_call_by "go" 0
    exact ⟨_,.skip (.skip .refl),fin _ _ _ s0 s1⟩
   ·k_call_by "go" 0
    exact ⟨_,.skip (.skip .refl),fin _ _ _ s0 s1⟩
  ·k_call_by "go" 0
   exact ⟨_,.skip (.skip .refl),fin _ _ _ s0 s1⟩
end
end
section
open Builtin Builtin.ObjectAttr
set_option tactic.hygienic false
inductive O2 where
 | sub|mul|add|max|and|or|xor
noncomputable def O2.nm:O2→Str
 | .sub=>"-"|.mul=>"*"|.add=>"+"|.max=>"max"|.and=>"and"|.or=>"or"|.xor=>"xor"
inductive Cd where
 | e|ne|l|ge|le|g|b|ae|be|a
noncomputable def Cd.nm:Cd→Str
 | .e=>"e"|.ne=>"ne"|.l=>"l"|.ge=>"ge"|.le=>"le"|.g=>"g"|.b=>"b"|.ae=>"ae"|.be=>"be"|.a=>"a"
inductive Tr where
 | num (v:Int)|var (k:Nat)|neg (t:Tr)|call (a b:Tr)|two (o:O2) (a b:Tr)
noncomputable def Tr.av:Tr→AV
 | .num v=>.tup [.str "num",.int v]
 | .var k=>.tup [.str "var",.int (k:Int)]
 | .neg t=>.tup [.str "neg",t.av]
 | .call a b=>.tup [.str "call",a.av,b.av]
 | .two o a b=>.tup [.str "two",.str o.nm,a.av,b.av]
noncomputable def Tr.leaf:Tr→Bool
 | .num _|.var _=>true
 | _=>false
noncomputable def Tr.wf (m:Nat):Nat→Tr→Prop
 | _,.num v=>-(2^31)≤v∧v < 2^64
 | _,.var k=>k < m
 | 0,.neg _|0,.call ..|0,.two ..=>False
 | d+1,.neg t=>Tr.wf m d t
 | d+1,.call a b=>m=4∧Tr.wf m d a∧Tr.wf m d b
 | d+1,.two _ a b=>Tr.wf m d a∧Tr.wf m d b
theorem Tr.wf_leaf {m d:Nat} {t:Tr} (hl:t.leaf=true) (h:t.wf m 0):t.wf m d:=by
 cases t<;>first|exact ffE hl|exact tfE hl|exact noE hl|(cases hl;done)|skip
 ·cases d<;>exact h
 ·cases d<;>exact h
structure Ts where
 c:Cd
 a:Tr
 b:Tr
@[reducible] noncomputable def Ts.av (t:Ts):AV:=.tup [.str t.c.nm,t.a.av,t.b.av]
noncomputable def Ts.wf (m:Nat) (t:Ts):Prop:=t.a.wf m 1∧t.b.leaf=true∧t.b.wf m 0
structure St1 where
 k:Nat
 t:Tr
@[reducible] noncomputable def St1.av (x:St1):AV:=.tup [.str "set",.int (x.k:Int),x.t.av]
noncomputable def St1.wf (d:Nat) (x:St1):Prop:=x.k < 4∧x.t.wf 4 d
inductive Sm where
 | set (x:St1)
 | iff (t:Ts) (y:St1) (ns:List St1)
 | loop (k:Nat) (y:St1)
noncomputable def Sm.av:Sm→AV
 | .set x=>x.av
 | .iff t y ns=>.tup [.str "if",t.av,.lst [y.av],.lst (ns.map St1.av)]
 | .loop k y=>.tup [.str "loop",.int (k:Int),.lst [y.av]]
noncomputable def Sm.wf:Sm→Prop
 | .set x=>x.wf 2
 | .iff t y ns=>t.wf 4∧y.wf 2∧ns.length≤1∧∀ x∈ns,x.wf 1
 | .loop k y=>k < 3∧y.wf 1
structure Fn where
 t:Ts
 y:Tr
 n:Tr
@[reducible] noncomputable def Fn.av (f:Fn):AV:=.tup [f.t.av,f.y.av,f.n.av]
noncomputable def Fn.wf (f:Fn):Prop:=f.t.wf 2∧f.y.wf 2 1∧f.n.wf 2 1
noncomputable def VC (u:Nat):Nat→Nat
 | 0=>u+8
 | d+1=>VC (VC (u+8) d+8) d+8
theorem VC_ge (u:Nat):∀ d,u≤VC u d
 | 0=>Nat.le_add_right u 8
 | d+1=>Nat.le_trans (Nat.le_trans (Nat.le_trans (Nat.le_add_right u 8) (VC_ge (u+8) d)) (Nat.le_add_right _ 8)) (Nat.le_trans (VC_ge _ d) (Nat.le_add_right _ 8))
section
variable {Q:Bt} {n:Nat} {σ:St} {Φ:AV→St→Prop} {pn:Addr} {cells:List Int} {s g:Int} {u:Nat}
theorem k_pick (X:Cx Q) {l:List AV} (hl:0 < l.length) (hL:l.length≤1000) (hp:Pen cells (u+1) s)
  (h:∀ d∈l,∀ s' g',Pen cells u s'→Φ d ((pn,.lst (penL cells s' g'))::σ)):
  WG Q (n+2) 101 [.ref pn,.lst l] ((pn,.lst (penL cells s g))::σ) Φ:=by
 refine F_t101.wg X rfl rfl fun env E=>?_
 k_call_by "go" 0
 refine w_lenF (by lia) ?_
 k_call_by "go" 0
 refine k_draw X (Int.ofNat_lt.mpr hl) (Int.le_trans (Int.ofNat_le.mpr hL) (by decide)) hp fun d s' g' d0 d1 hp=>?_
 k_call_by "go" 0
 refine ⟨_,sub_lstF d0 (by lia) (List.getElem?_eq_getElem (by lia)),?_⟩
 exact ⟨_,.refl,h _ (List.getElem_mem _) _ _ hp⟩
theorem k_leaf (X:Cx Q) {m:Nat} (hm:0 < (m:Int)) (hM:(m:Int)≤2^64) (hp:Pen cells (u+6) s)
  (h:∀ t:Tr,t.leaf=true→t.wf m 0→∀ s' g',Pen cells u s'→Φ t.av ((pn,.lst (penL cells s' g'))::σ)):
  WG Q (n+3) 102 [.ref pn,.int (m:Int)] ((pn,.lst (penL cells s g))::σ) Φ:=by
 refine F_t102.wg X rfl rfl fun env E=>?_
 k_call_by "go" 0
 refine k_draw X (by decide) (by decide) hp fun d s1 g1 d0 d1 hp=>?_
 k_call_by "go" 0
 refine br_ (fun q=>?_) fun q=>?_
 ·k_call_by "go" 0
  refine k_draw X hm hM hp fun k s2 g2 k0 k1 hp=>?_
  k_call_by "go" 0
  obtain ⟨k,rfl⟩:=Int.eq_ofNat_of_zero_le k0
  exact ⟨_,.refl,h (.var k) rfl (Int.ofNat_lt.mp k1) _ _ (hp.le (Nat.le_add_right u 4))⟩
 ·k_call_by "go" 0
  refine k_draw X (by decide) (by decide) hp fun k2 s2 g2 k20 k21 hp=>?_
  k_call_by "go" 0
  refine k_draw X (by decide) (by decide) hp fun k3 s3 g3 k30 k31 hp=>?_
  k_call_by "go" 0
  refine k_draw X (by decide) (by decide) hp fun k4 s4 g4 k40 k41 hp=>?_
  k_call_by "go" 0
  refine k_draw X (by decide) (by decide) hp fun k5 s5 g5 k50 k51 hp=>?_
  k_call_by "go" 0
  refine k_pick X (by show 0 < 4;decide) (by show 4≤1000;decide) hp fun d hd s6 g6 hp=>?_
  have hw:∃ v:Int,d=.int v∧-(2^31)≤v∧v < 2^64:=by
   have k41':k4 < 4294967296:=k41
   have k51':k5 < 18446744073709551616:=k51
   refine List.at_mem (P:=fun d=>∃ v:Int,d=.int v∧-(2^31)≤v∧v < 2^64) (all1 ⟨_,rfl,?_⟩ (all1 ⟨_,rfl,?_⟩ (all1 ⟨k4 - 2^31,rfl,?_⟩ (all1 ⟨_,rfl,?_⟩ all0)))) hd<;>lia
  obtain ⟨v,rfl,v0⟩:=hw
  k_call_by "go" 0
  exact ⟨_,.refl,h (.num v) rfl v0 _ _ hp⟩
theorem k_value (X:Cx Q) {m:Nat} (hm:m=2∨m=4):∀ (d:Nat) {n:Nat} {s g:Int} {u:Nat} {Φ:AV→St→Prop} (hp:Pen cells (VC u d) s)
  (h:∀ t:Tr,t.wf m d→∀ s' g',Pen cells u s'→Φ t.av ((pn,.lst (penL cells s' g'))::σ)),
  WG Q (n+d+4) 103 [.ref pn,.int (d:Int),.int (m:Int)] ((pn,.lst (penL cells s g))::σ) Φ:=by
 have hm0:0 < (m:Int):=by lia
 have hM:(m:Int)≤2^64:=by lia
 intro d
 induction d with
 | zero=>
  intro n s g u Φ hp h
  refine F_t103.wg X rfl rfl fun env E=>?_
  k_call_by "go" 0
  refine k_draw X (by decide) (by decide) hp fun way s1 g1 w0 w1 hp=>?_
  k_call_by "go" 0
  refine k_leaf X hm0 hM hp fun t tl tw s2 g2 hp=>?_
  k_call_by "go" 0
  exact ⟨_,.refl,h t (Tr.wf_leaf tl tw) _ _ (hp.le (Nat.le_succ u))⟩
 | succ d ih=>
  intro n s g u Φ hp h
  have hge:=VC_ge (u+8) d
  have hge2:=VC_ge (VC (u+8) d+8) d
  have ed:((d+1:Nat):Int) - 1=(d:Int):=by lia
  have ih':=@ih
  rw [← ed] at ih'
  have hne:¬ ((d+1:Nat):Int)=0:=by lia
  refine F_t103.wg X rfl rfl fun env E=>?_
  k_call_by "go" 0
  refine k_draw X (by decide) (by decide) hp fun way s1 g1 w0 w1 hp=>?_
  refine cutX (fun ρ σ'=>ρ=[some (.ref pn),some (.int ((d+1:Nat):Int)),some (.int (m:Int)),some (.int way),none,none]∧σ'=(pn,.lst (penL cells s1 g1))::σ∧¬ (way=5∧m=2)) (fun Z zz zr=>?_) ?_
  ·k_call_by "go" 0
   refine br_d (fun q5=>?_) fun q5=>?_
   ·k_call_by "go" 0
    refine br_d (fun q2=>?_) fun q2=>?_
    ·k_call_by "go" 0
     refine k_leaf X hm0 hM (hp.le (show u+6≤VC (VC (u+8) d+8) d+7 by lia)) fun t tl tw s2 g2 hp=>?_
     exact zr _ _ _ ⟨_,.refl,h t (Tr.wf_leaf tl tw) _ _ hp⟩
    ·exact zz _ _ ⟨rfl,rfl,fun q=>q2 (congrArg Int.ofNat q.2)⟩
   ·exact zz _ _ ⟨rfl,rfl,fun q=>q5 q.1⟩
  rintro _ _ ⟨rfl,rfl,hw⟩
  k_call_by "go" 0
  have hp':Pen cells (VC (VC (u+8) d+8) d) s1:=hp.le (Nat.le_add_right _ 7)
  refine (?_:WG Q (n+d+4) _ _ _ _)
  refine ih' (n:=n) hp' ?_
  intro t tw s2 g2 hp
  k_call_by "go" 0
  refine br_d (fun q4=>?_) fun q4=>?_
  ·k_call_by "go" 0
   exact ⟨_,.refl,h (.neg t) tw _ _ (hp.le (by lia))⟩
  refine nil_ ?_
  refine cutX (fun ρ σ'=>∃ (t':Tr) (s3 g3:Int),t'.wf m d∧Pen cells (u+8) s3∧ρ=[some (.ref pn),some (.int ((d+1:Nat):Int)),some (.int (m:Int)),some (.int way),some t.av,some t'.av]∧σ'=(pn,.lst (penL cells s3 g3))::σ) (fun Z zz zr=>?_) ?_
  ·k_call_by "go" 0
   refine k_draw X (by decide) (by decide) hp fun w3 s3 g3 _ _ hp=>?_
   k_call_by "go" 0
   refine br_d (fun q3=>?_) fun q3=>?_
   ·k_call_by "go" 0
    refine k_leaf X hm0 hM (u:=VC (u+8) d+1) hp fun t' tl tw' s4 g4 hp=>?_
    exact zz _ _ ⟨t',s4,g4,Tr.wf_leaf tl tw',hp.le (by lia),rfl,rfl⟩
   ·k_call_by "go" 0
    have hp':Pen cells (VC (u+8) d) s3:=hp.le (Nat.le_add_right _ 7)
    refine (?_:WG Q (n+d+4) _ _ _ _)
    refine ih' (n:=n) hp' ?_
    intro t' tw' s4 g4 hp
    exact zz _ _ ⟨t',s4,g4,tw',hp,rfl,rfl⟩
  rintro _ _ ⟨t',s3,g3,tw',hp,rfl,rfl⟩
  k_call_by "go" 0
  refine br_d (fun q5=>?_) fun q5=>?_
  ·k_call_by "go" 0
   exact ⟨_,.refl,h (.call t t') ⟨by lia,tw,tw'⟩ _ _ (hp.le (Nat.le_add_right u 8))⟩
  ·k_call_by "go" 0
   refine k_pick X (by show 0 < 8;decide) (by show 8≤1000;decide) hp fun o ho s6 g6 hp=>?_
   have hw:∃ x:O2,o=.str x.nm:=List.at_mem (P:=fun o=>∃ x:O2,o=.str x.nm) (all1 ⟨.sub,rfl⟩ (all1 ⟨.mul,rfl⟩ (all1 ⟨.add,rfl⟩ (all1 ⟨.max,rfl⟩ (all1 ⟨.and,rfl⟩ (all1 ⟨.or,rfl⟩ (all1 ⟨.xor,rfl⟩ (all1 ⟨.mul,rfl⟩ all0)))))))) ho
   obtain ⟨x,rfl⟩:=hw
   k_call_by "go" 0
   exact ⟨_,.refl,h (.two x t t') ⟨tw,tw'⟩ _ _ (hp.le (Nat.le_add_right u 7))⟩
end
end
section
open Builtin Builtin.ObjectAttr
set_option tactic.hygienic false
section
variable {Q:Bt} {n:Nat} {σ:St} {Φ:AV→St→Prop} {pn:Addr} {cells:List Int} {s g:Int} {u:Nat}
theorem k_test (X:Cx Q) {m:Nat} (hm:m=2∨m=4) (hp:Pen cells (u+47) s)
  (h:∀ t:Ts,t.wf m→∀ s' g',Pen cells u s'→Φ t.av ((pn,.lst (penL cells s' g'))::σ)):
  WG Q (n+6) 104 [.ref pn,.int (m:Int)] ((pn,.lst (penL cells s g))::σ) Φ:=by
 refine F_t104.wg X rfl rfl fun env E=>?_
 k_call_by "go" 0
 refine k_pick X (by show 0 < 10;decide) (by show 10≤1000;decide) hp fun o ho s1 g1 hp=>?_
 have hw:∃ x:Cd,o=.str x.nm:=List.at_mem (P:=fun o=>∃ x:Cd,o=.str x.nm) (all1 ⟨.e,rfl⟩ (all1 ⟨.ne,rfl⟩ (all1 ⟨.l,rfl⟩ (all1 ⟨.ge,rfl⟩ (all1 ⟨.le,rfl⟩ (all1 ⟨.g,rfl⟩ (all1 ⟨.b,rfl⟩ (all1 ⟨.ae,rfl⟩ (all1 ⟨.be,rfl⟩ (all1 ⟨.a,rfl⟩ all0)))))))))) ho
 obtain ⟨x,rfl⟩:=hw
 k_call_by "go" 0
 refine k_value X hm 1 (u:=u+6) hp fun t tw s2 g2 hp=>?_
 k_call_by "go" 0
 refine k_leaf X (by lia) (by lia) hp fun t' tl tw' s3 g3 hp=>?_
 k_call_by "go" 0
 exact ⟨_,.refl,h ⟨x,t,t'⟩ ⟨tw,tl,tw'⟩ _ _ hp⟩
theorem k_set (X:Cx Q) {d:Nat} (hp:Pen cells (VC u d+1) s)
  (h:∀ x:St1,x.wf d→∀ s' g',Pen cells u s'→Φ x.av ((pn,.lst (penL cells s' g'))::σ)):
  WG Q (n+d+5) 105 [.ref pn,.int (d:Int)] ((pn,.lst (penL cells s g))::σ) Φ:=by
 refine F_t105.wg X rfl rfl fun env E=>?_
 k_call_by "go" 0
 refine k_draw X (by decide) (by decide) hp fun k s1 g1 k0 k1 hp=>?_
 k_call_by "go" 0
 obtain ⟨k,rfl⟩:=Int.eq_ofNat_of_zero_le k0
 refine k_value (m:=4) X (.inr rfl) d hp fun t tw s2 g2 hp=>?_
 k_call_by "go" 0
 exact ⟨_,.refl,h ⟨k,t⟩ ⟨Int.ofNat_lt.mp k1,tw⟩ _ _ hp⟩
theorem k_statement (X:Cx Q) (hp:Pen cells (u+195) s)
  (h:∀ x:Sm,x.wf→∀ s' g',Pen cells u s'→Φ x.av ((pn,.lst (penL cells s' g'))::σ)):
  WG Q (n+8) 106 [.ref pn] ((pn,.lst (penL cells s g))::σ) Φ:=by
 refine F_t106.wg X (ρ0:=[none]) (ds:=[some (.ref pn)]) rfl rfl rfl rfl fun env as ha E=>?_
 obtain ⟨p,rfl⟩:=List.length_eq_one_iff.mp ha
 refine (?_:runS _ _ _ _ _ ((p,.cel (some (.ref pn)))::(pn,_)::σ) _)
 k_call_by "go" 0
 refine WG.sel (.take (.there .here) .refl) (k_draw X (by decide) (by decide) hp fun way s1 g1 w0 w1 hp=>?_)
 k_call_by "go" 0
 refine br_d (fun q2=>?_) fun q2=>?_
 ·k_call_by "go" 0
  refine k_set X (d:=2) (u:=u+89) hp fun x xw s2 g2 hp=>?_
  exact ⟨_,.take .here (.skip .refl),h (.set x) xw _ _ (hp.le (Nat.le_add_right u 89))⟩
 ·k_call_by "go" 0
  refine br_d (fun q3=>?_) fun q3=>?_
  ·k_call_by "go" 0
   refine k_test X (m:=4) (.inr rfl) (u:=u+147) hp fun t tw s2 g2 hp=>?_
   k_call_by "go" 0
   refine k_set X (d:=2) (u:=u+42) hp fun y yw s3 g3 hp=>?_
   k_call_by "go" 0
   refine WE.freeze (e_cmpr (F_t106.cok X E rfl) L_t106_0 rfl S_t106_0 ?_)
   k_call_by "go" 0
   refine k_draw X (by decide) (by decide) hp fun k s4 g4 k0 k1 hp=>?_
   rcases (show k=0∨k=1 by lia) with rfl|rfl
   ·k_call_by "go" 0
    refine w_range ?_
    refine ⟨_,_,it_rng (hi:=0) (by decide),by decide,fun cenv D=>⟨D,_,_,_,rfl,.here,rfl,?_⟩⟩
    k_call_by "go" 0
    exact ⟨_,.take .here (.skip .refl),h (.iff t y []) ⟨tw,yw,Nat.zero_le _,all0⟩ _ _ (hp.le (Nat.le_add_right u 41))⟩
   ·k_call_by "go" 0
    refine w_range ?_
    refine ⟨_,_,it_rng (hi:=1) (by decide),by decide,fun cenv=>?_⟩
    k_call_by "go" 0
    refine k_set X (d:=1) hp fun z zw s5 g5 hp=>?_
    refine fun D=>⟨D,_,_,_,rfl,.here,rfl,?_⟩
    k_call_by "go" 0
    exact ⟨_,.take .here (.skip .refl),h (.iff t y [z]) ⟨tw,yw,Nat.le_refl 1,all1 zw all0⟩ _ _ hp⟩
  ·k_call_by "go" 0
   refine k_draw X (by decide) (by decide) hp fun k s4 g4 k0 k1 hp=>?_
   obtain ⟨k,rfl⟩:=Int.eq_ofNat_of_zero_le k0
   k_call_by "go" 0
   refine k_set X (d:=1) (u:=u+152) hp fun y yw s3 g3 hp=>?_
   k_call_by "go" 0
   exact ⟨_,.take .here (.skip .refl),h (.loop k y) ⟨Int.ofNat_lt.mp k1,yw⟩ _ _ (hp.le (Nat.le_add_right u 152))⟩
end
end
section
open Builtin Builtin.ObjectAttr
set_option tactic.hygienic false
/-! memory -/
theorem pl_of {p:Int} (h0:0≤p) (h1:p < 2^64):pl p=p:=by
 unfold pl
 rw [BitVec.toNat_ofInt]
 lia
theorem oct_upd {H:Int→Option B8} {a q:Int} {b:B8} (ha0:0≤a) (ha:a < 2^40) (h0:0≤q) (h1:q < 2^40):oct (upd H (pl a) (some b)) q=if q=a then b else oct H q:=by
 unfold oct upd
 rw [pl_of ha0 (by lia),pl_of h0 (by lia)]
 by_cases e:q=a
 ·rw [if_pos e,if_pos e];rfl
 ·rw [if_neg e,if_neg e]
theorem oct_wrN {H:Int→Option B8} {p q:Int} {v:BV} (hp0:0≤p) (hp:p < 2^39) (h0:0≤q) (h1:q < 2^40):∀ n:Nat,n≤8→oct (wrN H p v n) q=if p≤q∧q < p+n then byt v (q - p).toNat else oct H q
 | 0,_=>by rw [if_neg (by lia)];rfl
 | n+1,hn=>by
  rw [wrN,oct_upd (by lia) (by lia) h0 h1,oct_wrN hp0 hp h0 h1 n (Nat.le_of_succ_le hn)]
  by_cases e:q=p+n
  ·subst e
   rw [if_pos rfl,if_pos (by lia),Int.add_comm p,Int.add_sub_cancel];rfl
  ·rw [if_neg e]
   by_cases e2:p≤q∧q < p+n
   ·rw [if_pos e2,if_pos (by lia)]
   ·rw [if_neg e2,if_neg (by lia)]
theorem oct_wr {H:Int→Option B8} {p q:Int} {v:BV} (hp0:0≤p) (hp:p < 2^39) (h0:0≤q) (h1:q < 2^40):oct (wr H p v) q=if p≤q∧q < p+8 then byt v (q - p).toNat else oct H q:=oct_wrN hp0 hp h0 h1 8 (Nat.le_refl 8)
theorem racc_congr {H H':Int→Option B8} {p:Int}:∀ n:Nat,(∀ i:Nat,i < n→oct H' (p+i)=oct H (p+i))→racc H' p n=racc H p n
 | 0,_=>rfl
 | n+1,h=>by rw [racc,racc,racc_congr n fun i hi=>h i (Nat.lt_succ_of_lt hi),h n (Nat.lt_succ_self n)]
theorem rd_congr {H H':Int→Option B8} {p:Int} (h:∀ i:Nat,i < 8→oct H' (p+i)=oct H (p+i)):rd H' p=rd H p:=congrArg (BitVec.ofInt 64) (racc_congr 8 h)
theorem racc_wr {H:Int→Option B8} {p:Int} {v:BV} (hp0:0≤p) (hp:p < 2^39):∀ n:Nat,n≤8→racc (wr H p v) p n=((v.toNat % 2^(8*n):Nat):Int)
 | 0,_=>by rw [show 2^(8*0)=1 from rfl,Nat.mod_one];rfl
 | n+1,hn=>by
  have e:((8:Int)*n).toNat=8*n:=Int.toNat_natCast (8*n)
  rw [racc,racc_wr hp0 hp n (Nat.le_of_succ_le hn),oct_wr hp0 hp (by lia) (by lia),if_pos (by lia),Int.add_comm p,Int.add_sub_cancel,e,show (n:Int).toNat=n from rfl,byt,BitVec.toNat_ofNat,show 8*(n+1)=8*n+8 from rfl,Nat.pow_add,Nat.mod_mul,Int.natCast_add,Int.natCast_mul,Int.mul_comm,Int.natCast_pow]
  rfl
theorem rd_wr {H:Int→Option B8} {p:Int} {v:BV} (hp0:0≤p) (hp:p < 2^39):rd (wr H p v) p=v:=by
 rw [rd,racc_wr hp0 hp 8 (Nat.le_refl 8),Nat.mod_eq_of_lt v.isLt,ofInt_self]
noncomputable def Ag (H H':Int→Option B8) (a:Int):Prop:=∀ p,a≤p→p < 2^39→oct H' p=oct H p
theorem Ag.refl (H:Int→Option B8) (a:Int):Ag H H a:=fun _ _ _=>rfl
theorem Ag.trans {H H' H'':Int→Option B8} {a:Int} (x:Ag H H' a) (y:Ag H' H'' a):Ag H H'' a:=fun p h1 h2=>(y p h1 h2).trans (x p h1 h2)
theorem Ag.le {H H':Int→Option B8} {a b:Int} (x:Ag H H' a) (h:a≤b):Ag H H' b:=fun p h1 h2=>x p (by lia) h2
theorem Ag.wr {H:Int→Option B8} {a p:Int} {v:BV} (h0:0≤p) (h:p+8≤a) (ha:p < 2^39):Ag H (wr H p v) a:=fun q h1 h2=>by rw [oct_wr h0 ha (by lia) (by lia),if_neg (by lia)]
theorem Ag.rd {H H':Int→Option B8} {a p:Int} (x:Ag H H' a) (h:a≤p) (h1:p+8≤2^39):rd H' p=rd H p:=rd_congr fun i hi=>x _ (by lia) (by lia)
theorem rd_wr_ne {H:Int→Option B8} {p q:Int} {v:BV} (hp0:0≤p) (hp:p < 2^39) (h0:0≤q) (h1:q < 2^39) (h:q+8≤p∨p+8≤q):rd (wr H p v) q=rd H q:=
 rd_congr fun i hi=>by rw [oct_wr hp0 hp (by lia) (by lia),if_neg (by lia)]
/-! signs,conditions -/
theorem slt_flags (a b:BV):(sgn (a - b) != ofI a b)=decide (a.toInt < b.toInt):=by
 have hs:∀ x:BV,sgn x=if x.msb then 1 else 0:=fun x=>rfl
 have ha:=a.isLt
 have hb:=b.isLt
 have f1:a.msb=b.msb→(a - b).msb=a.ult b:=by
  intro e
  rw [BitVec.msb_eq_decide,BitVec.msb_eq_decide,decide_eq_decide] at e
  rw [BitVec.msb_eq_decide,BitVec.toNat_sub,BitVec.ult,decide_eq_decide]
  generalize a.toNat=x at *
  generalize b.toNat=y at *
  lia
 have f2:a.msb=true→b.msb=false→a.ult b=false:=by
  intro e e'
  rw [BitVec.msb_eq_decide,decide_eq_true_iff] at e
  rw [BitVec.msb_eq_decide,decide_eq_false_iff_not] at e'
  exact decide_eq_false fun q=>e' (Nat.le_of_lt (Nat.lt_of_le_of_lt e q))
 have f3:a.msb=false→b.msb=true→a.ult b=true:=by
  intro e e'
  rw [BitVec.msb_eq_decide,decide_eq_false_iff_not] at e
  rw [BitVec.msb_eq_decide,decide_eq_true_iff] at e'
  exact decide_eq_true (Nat.lt_of_lt_of_le (Nat.not_le.mp e) e')
 show _=a.slt b
 rw [BitVec.slt_eq_ult]
 unfold ofI
 rw [hs,hs,BitVec.msb_and,BitVec.msb_xor,BitVec.msb_xor]
 generalize a.ult b=u at *
 generalize (a - b).msb=r at *
 generalize a.msb=p at *
 generalize b.msb=q at *
 cases p<;>cases q
 ·rw [f1 rfl];cases u<;>rfl
 ·rw [f3 rfl rfl];cases r<;>rfl
 ·rw [f2 rfl rfl];cases r<;>rfl
 ·rw [f1 rfl];cases u<;>rfl
noncomputable def Cd.hold:Cd→BV→BV→Bool
 | .e,u,v=>decide (u=v)|.ne,u,v=>!decide (u=v)
 | .l,u,v=>decide (u.toInt < v.toInt)|.ge,u,v=>decide (v.toInt≤u.toInt)|.le,u,v=>decide (u.toInt≤v.toInt)|.g,u,v=>decide (v.toInt < u.toInt)
 | .b,u,v=>decide (u.toNat < v.toNat)|.ae,u,v=>decide (v.toNat≤u.toNat)|.be,u,v=>decide (u.toNat≤v.toNat)|.a,u,v=>decide (v.toNat < u.toNat)
theorem zf_iff (a b:BV):decide (zfI (a - b)=1)=decide (a=b):=by
 unfold zfI
 by_cases h:a=b
 ·subst h;simp
 ·have:a - b≠0#64:=fun e=>h (by
   have:=congrArg BitVec.toNat e
   rw [BitVec.toNat_sub] at this
   apply BitVec.eq_of_toNat_eq
   have ha:=a.isLt;have hb:=b.isLt
   simp at this
   lia)
  rw [if_neg this];simp [h]
theorem cf_iff (a b:BV):decide (cfI a b=1)=decide (a.toNat < b.toNat):=by
 unfold cfI
 by_cases h:a.toNat < b.toNat
 ·rw [if_pos h];simp [h]
 ·rw [if_neg h];simp [h]
noncomputable def Cd.cb:Cd→Bool→Bool→Bool→Bool
 | .e,x,_,_=>x|.ne,x,_,_=>!x|.b,_,y,_=>y|.ae,_,y,_=>!y|.be,x,y,_=>y || x|.a,x,y,_=>!(y || x)
 | .l,_,_,z=>z|.ge,_,_,z=>!z|.le,x,_,z=>x || z|.g,x,_,z=>!(x || z)
theorem condF_cb (c:Cd) (cf zf sf of:Int):condF c.nm cf zf sf of=c.cb (decide (zf=1)) (decide (cf=1)) (sf != of):=by cases c<;>kernel_rfl
theorem not_dec {p q:Prop} [Decidable p] [Decidable q] (h:¬p↔q):(!decide p)=decide q:=decide_not.symm.trans (decide_eq_decide.mpr h)
theorem cond_hold (c:Cd) (a b:BV):condF c.nm (cfI a b) (zfI (a - b)) (sgn (a - b)) (ofI a b)=c.hold a b:=by
 have be:(decide (a.toNat < b.toNat) || decide (a=b))=decide (a.toNat≤b.toNat):=(Bool.decide_or _ _).symm.trans (decide_eq_decide.mpr ((or_congr_right BitVec.toNat_inj.symm).trans Nat.le_iff_lt_or_eq.symm))
 have le:(decide (a=b) || decide (a.toInt < b.toInt))=decide (a.toInt≤b.toInt):=(Bool.decide_or _ _).symm.trans (decide_eq_decide.mpr (Or.comm.trans ((or_congr_right BitVec.toInt_inj.symm).trans Int.le_iff_lt_or_eq.symm)))
 rw [condF_cb,zf_iff,cf_iff,slt_flags]
 cases c with
 | ae=>exact not_dec Nat.not_lt
 | be=>exact be
 | a=>exact (congrArg Bool.not be).trans (not_dec Nat.not_le)
 | ge=>exact not_dec Int.not_lt
 | le=>exact le
 | g=>exact (congrArg Bool.not le).trans (not_dec Int.not_le)
 | _=>rfl
noncomputable def O2.op:O2→BV→BV→BV
 | .sub,u,v=>u - v|.mul,u,v=>u*v|.add,u,v=>u+v
 | .max,u,v=>if v.toInt≤u.toInt then u else v
 | .and,u,v=>u &&& v|.or,u,v=>u ||| v|.xor,u,v=>u ^^^ v
noncomputable def told (fn:BV→BV→BV) (env:Nat→BV):Tr→BV
 | .num v=>BitVec.ofInt 64 v
 | .var k=>env k
 | .neg t=>0 - told fn env t
 | .call a b=>fn (told fn env a) (told fn env b)
 | .two o a b=>o.op (told fn env a) (told fn env b)
@[reducible] noncomputable def env2 (a b:BV):Nat→BV:=fun k=>[a,b].getD k 0
noncomputable def noFn:BV→BV→BV:=fun _ _=>0
noncomputable def Fn.sem (f:Fn) (a b:BV):BV:=
 if f.t.c.hold (told noFn (env2 a b) f.t.a) (told noFn (env2 a b) f.t.b) then told noFn (env2 a b) f.y else told noFn (env2 a b) f.n
@[reducible] noncomputable def bvs (vs:List BV):List AV:=vs.map fun v=>.int (v.toNat:Int)
theorem fm64 (x:Int):x.fmod (2^(64:Int).toNat)=((BitVec.ofInt 64 x).toNat:Int):=by
 rw [Int.fmod_eq_emod_of_nonneg _ (by decide),BitVec.toNat_ofInt]
 have:(2:Int)^(64:Int).toNat=2^64:=rfl
 rw [this]
 lia
theorem ofInt_mul (a b:BV):BitVec.ofInt 64 ((a.toNat:Int)*b.toNat)=a*b:=by rw [BitVec.ofInt_mul,ofInt_self,ofInt_self]
theorem ofInt_sub' (a b:BV):BitVec.ofInt 64 ((a.toNat:Int) - b.toNat)=a - b:=by
 have:=ofInt_sub a b
 rwa [Int.sub_zero] at this
theorem ofInt_add' (a b:BV):BitVec.ofInt 64 ((a.toNat:Int)+b.toNat)=a+b:=by
 have:=ofInt_add a b
 rwa [Int.add_zero] at this
theorem ofInt_neg (a:BV):BitVec.ofInt 64 (0 - (a.toNat:Int))=0 - a:=by
 rw [Int.sub_eq_add_neg,BitVec.ofInt_add,BitVec.ofInt_neg,ofInt_self,BitVec.sub_eq_add_neg]
 rfl
theorem bvs_get {vs:List BV} {k:Nat} (h:k < vs.length):(bvs vs)[((k:Int)).toNat]?=some (.int (((vs.getD k 0)).toNat:Int)):=by
 have:((k:Int)).toNat=k:=rfl
 rw [this,List.getElem?_map,List.getElem?_eq_getElem h,List.getD_eq_getElem?_getD,List.getElem?_eq_getElem h];rfl
/-! bits -/
theorem bits_sum (x:Nat):∀ n,((List.range n).map (fun i=>if x.testBit i then ((2^i:Nat):Int) else 0)).sum=((x % 2^n:Nat):Int)
 | 0=>by simp [Nat.mod_one]
 | n+1=>by
  have h2:x / 2^n % 2=0∨x / 2^n % 2=1:=by lia
  rw [List.range_succ,List.map_append,List.sum_append,bits_sum x n,Nat.mod_pow_succ,List.map_cons,List.map_nil,List.sum_cons,List.sum_nil,Int.add_zero,Nat.testBit_eq_decide_div_mod_eq]
  rcases h2 with e|e<;>simp [e]
theorem filt_sum {α:Type} (t:α→Bool) (f:α→Int):∀ l:List α,((l.filter t).map f).sum=(l.map fun i=>if t i then f i else 0).sum
 | []=>rfl
 | a::l=>by
  rw [List.filter_cons,List.map_cons,List.sum_cons,← filt_sum t f l]
  cases t a<;>simp
theorem p2_eq (i:Nat):(2:Int)^(0+(i:Int)).toNat=((2^i:Nat):Int):=by
 have:(0+(i:Int)).toNat=i:=by lia
 rw [this,Int.natCast_pow];rfl
theorem bit_eq (u:BV) (i:Nat):(((u.toNat:Int).fdiv (2^(0+(i:Int)).toNat)).fmod 2)=if u.toNat.testBit i then 1 else 0:=by
 have hp:(0:Int)≤((2^i:Nat):Int):=Int.natCast_nonneg _
 rw [p2_eq,Int.fdiv_eq_ediv_of_nonneg _ hp,Int.fmod_eq_emod_of_nonneg _ (by decide),← Int.natCast_ediv,Nat.testBit_eq_decide_div_mod_eq]
 generalize u.toNat / 2^i=q
 have h2:q % 2=0∨q % 2=1:=by lia
 rcases h2 with e|e
 ·rw [e];simp;lia
 ·rw [e];simp;lia
noncomputable def pairOf (u v:BV):AV→AV
 | .int j=>.tup [.int (((u.toNat:Int).fdiv (2^j.toNat)).fmod 2+((v.toNat:Int).fdiv (2^j.toNat)).fmod 2),.int (2^j.toNat)]
 | _=>.none
noncomputable def wantOf:O2→List Int
 | .and=>[2]
 | .or=>[1,2]
 | .xor=>[1]
 | _=>[]
noncomputable def isWanted (ws:List Int):AV→Bool
 | .tup [.int m,_]=>(anyInt m (ws.map .int)).getD false
 | _=>false
noncomputable def worthOf:AV→AV
 | .tup [_,.int x]=>.int x
 | _=>.none
theorem bits_op {o:O2} (ho:o=.and∨o=.or∨o=.xor) (u v:BV) (i:Nat):isWanted (wantOf o) (pairOf u v (.int (0+(i:Int))))=(o.op u v).toNat.testBit i:=by
 unfold pairOf isWanted
 dsimp only
 rw [bit_eq,bit_eq]
 rcases ho with rfl|rfl|rfl
 ·show _=(u &&& v).toNat.testBit i
  rw [BitVec.toNat_and,Nat.testBit_and]
  cases u.toNat.testBit i<;>cases v.toNat.testBit i<;>rfl
 ·show _=(u ||| v).toNat.testBit i
  rw [BitVec.toNat_or,Nat.testBit_or]
  cases u.toNat.testBit i<;>cases v.toNat.testBit i<;>rfl
 ·show _=(u ^^^ v).toNat.testBit i
  rw [BitVec.toNat_xor,Nat.testBit_xor]
  cases u.toNat.testBit i<;>cases v.toNat.testBit i<;>rfl
noncomputable def worths (o:O2) (u v:BV):List Int:=((List.range 64).filter fun i=>(o.op u v).toNat.testBit i).map fun i=>((2^i:Nat):Int)
theorem worths_av {o:O2} (ho:o=.and∨o=.or∨o=.xor) (u v:BV):(([]++(irange 0 64).map (pairOf u v)).filter (isWanted (wantOf o))).map worthOf=(worths o u v).map .int:=by
 unfold worths irange
 rw [List.nil_append,List.map_map,List.filter_map,List.map_map,List.map_map]
 have:(isWanted (wantOf o)∘(pairOf u v∘fun i:Nat=>AV.int (0+(i:Int))))=fun i=>(o.op u v).toNat.testBit i:=by
  funext i;exact bits_op ho u v i
 rw [this]
 congr 1
 funext i
 show AV.int (2^(0+(i:Int)).toNat)=AV.int ((2^i:Nat):Int)
 rw [p2_eq]
theorem worths_sum (o:O2) (u v:BV):(worths o u v).sum=((o.op u v).toNat:Int):=by
 unfold worths
 rw [filt_sum,bits_sum,Nat.mod_eq_of_lt (o.op u v).isLt]
theorem mem_irange {lo:Int} {n:Nat} {d:AV} (h:d∈irange lo n):∃ i:Nat,i < n∧d=.int (lo+(i:Int)):=by
 obtain ⟨i,hi,e⟩:=List.mem_map.mp h
 exact ⟨i,List.mem_range.mp hi,e.symm⟩
theorem p2_ne (i:Nat):(2:Int)^(0+(i:Int)).toNat≠0:=by
 rw [p2_eq]
 have:0 < 2^i:=Nat.two_pow_pos i
 lia
theorem p2_log {i:Nat} (h:i < 64):((2:Int)^(0+(i:Int)).toNat).natAbs.log2 < 9000:=by
 rw [p2_eq,Int.natAbs_natCast]
 have:(2^i).log2 < 65:=(Nat.log2_lt (by have:=Nat.two_pow_pos i;lia)).mpr (Nat.pow_lt_pow_right (by decide) (by lia))
 lia
theorem pairs_tup {u v:BV} {d:AV} (h:d∈(irange 0 64).map (pairOf u v)):∃ a b,d=.tup [.int a,.int b]:=by
 obtain ⟨e,he,rfl⟩:=List.mem_map.mp h
 obtain ⟨i,_,rfl⟩:=mem_irange he
 exact ⟨_,_,rfl⟩
noncomputable def Cd.sg:Cd→Bool
 | .l|.ge|.le|.g=>true
 | _=>false
section
variable {Q:Bt} {n:Nat} {σ:St} {Φ:AV→St→Prop}
theorem k_lholds (X:Cx Q) {cn:Cd} {u v:BV} (h:Φ (.bool (cn.hold u v)) σ):WG Q (n+2) 108 [.str cn.nm,.int (u.toNat:Int),.int (v.toNat:Int)] σ Φ:=by
 have e1:decide ((u.toNat:Int)=v.toNat)=decide (u=v):=by
  rw [decide_eq_decide];exact ⟨fun e=>BitVec.eq_of_toNat_eq (by lia),fun e=>by rw [e]⟩
 refine F_t108.wg X rfl rfl fun env E=>?_
 have hs:anyStr cn.nm [.str "l",.str "ge",.str "le",.str "g"]=some cn.sg:=by cases cn<;>decide +kernel
 cases hb:cn.sg with
  | true=>
   rw [hb] at hs
   k_call_by "go" 0
   refine k_signedL X ?_
   k_call_by "go" 0
   refine k_signedL X ?_
   k_call_by "go" 0
   with_reducible refine Stop.ok ?_
   refine e_dct (F_t108.cok X E) S_t108_0 (by kernel_rfl) ?_
   k_call_by "go" 0
   intro D
   k_call_by "go" 0
   cases cn<;>first|exact ffE hb|exact tfE hb|exact noE hb|(cases hb;done)|exact ⟨_,sub_sd (.head _) rfl,_,.skip .refl,h⟩
  | false=>
   rw [hb] at hs
   k_call_by "go" 0
   with_reducible refine Stop.ok ?_
   refine e_dct (F_t108.cok X E) S_t108_0 (by kernel_rfl) ?_
   k_call_by "go" 0
   intro D
   k_call_by "go" 0
   have hh:∀ b,b=cn.hold u v→Φ (.bool b) σ:=fun b e=>e▸h
   cases cn<;>first|exact ffE hb|exact tfE hb|exact noE hb|(cases hb;done)|exact ⟨_,sub_sd (.head _) rfl,_,.skip .refl,hh _ (by first|exact e1|exact congrArg (!·) e1|(show decide _=decide _;rw [decide_eq_decide];lia))⟩
end
end
section
open Builtin Builtin.ObjectAttr
set_option tactic.hygienic false
noncomputable def Hd (hv:AV) (vs:List BV) (σ:St):Prop:=hv=.lst (bvs vs)∨∃ a,hv=.ref a∧(a,Cell.lst (bvs vs))∈σ
theorem Hd.on {hv:AV} {vs:List BV} {σ:St} (h:Hd hv vs σ) (x:Addr × Cell):Hd hv vs (x::σ):=h.imp id fun ⟨a,e,m⟩=>⟨a,e,.tail _ m⟩
theorem Hd.sub {Q:Bt} {hv:AV} {vs:List BV} {σ:St} (h:Hd hv vs σ) {k:Nat} (hk:k < vs.length) (hl:vs.length≤4):SubOk Q σ hv (.int (k:Int)) (.int (((vs.getD k 0)).toNat:Int)):=by
 have h2:(k:Int) < 2^62:=by lia
 rcases h with rfl|⟨a,rfl,m⟩
 ·exact sub_lstF (Int.natCast_nonneg k) h2 (bvs_get hk)
 ·exact sub_lst m (Int.natCast_nonneg k) h2 (bvs_get hk)
section
variable {Q:Bt} {n:Nat} {σ:St} {Φ:AV→St→Prop}
theorem told_in (X:Cx Q) {t hv fv:AV} (k:∀ env p1 p2 p3,EnvOk env (scS (st 109)) [("wanted",p1),("other",p2),("one",p3)]→runS ⟨Q,n,env,["tree","held","function","test","yes","no","is_so","sign","pairs"],["wanted","other","one"],[p1,p2,p3],true,[207,109,108,107,213,206]⟩ 100 true t109 [some t,some hv,some fv,none,none,none,none,none,none] ((p1,.cel none)::(p2,.cel none)::(p3,.cel none)::σ) (retO (thn Φ))):
  WG Q (n+1) 109 [t,hv,fv] σ Φ:=F_t109.wg X (ds:=[none,none,none]) rfl rfl rfl rfl fun env as ha E=>by
 obtain ⟨p1,p2,p3,rfl⟩:=len3 ha
 exact k env p1 p2 p3 E
theorem k_toldG (X:Cx Q) {m e:Nat} {vs:List BV} {fv hv:AV} {fn:BV→BV→BV} (hm:vs.length=m) (hm4:m≤4)
  (hcall:m=4→e=3∧∃ f:Fn,fv=f.av∧f.wf∧fn=f.sem∧∀ (t:Tr) (tw:t.wf 2 1) (a b:BV) (n:Nat) (σ:St) (Φ:AV→St→Prop),Φ (.int ((told noFn (env2 a b) t).toNat:Int)) σ→WG Q (n+9) 109 [t.av,.lst (bvs [a,b]),.none] σ Φ):
  ∀ (t:Tr) (d n:Nat) (σ:St) (Φ:AV→St→Prop) (hh:Hd hv vs σ) (tw:t.wf m d) (h:Φ (.int ((told fn (fun k=>vs.getD k 0) t).toNat:Int)) σ),
  WG Q (n+d+e+8) 109 [t.av,hv,fv] σ Φ:=by
 intro t
 induction t with
 | num v=>
  intro d n σ Φ hh tw h
  refine told_in X fun env p1 p2 p3 E=>?_
  k_call_by "go" 0
  refine ⟨_,.skip (.skip (.skip .refl)),?_⟩
  rw [fm64]
  exact h
 | var k=>
  intro d n σ Φ hh tw h
  refine told_in X fun env p1 p2 p3 E=>?_
  have hk:k < vs.length:=by cases d<;>exact hm▸tw
  have hs:=(((hh.on (p3,.cel none)).on (p2,.cel none)).on (p1,.cel none)).sub (Q:=Q) hk (hm▸hm4)
  rcases hh with rfl|⟨a,rfl,_⟩
  ·k_call_by "go" 0
   exact ⟨_,hs,_,.skip (.skip (.skip .refl)),h⟩
  ·k_call_by "go" 0
   exact ⟨_,hs,_,.skip (.skip (.skip .refl)),h⟩
 | neg t ih=>
  intro d n σ Φ hh tw h
  cases d with
  | zero=>exact tw.elim
  | succ d=>
  refine told_in X fun env p1 p2 p3 E=>?_
  k_call_by "go" 0
  refine WG.lv (congrArg (·+7) (Nat.succ_add (n+d) e)) (ih d n _ _ (((hh.on _).on _).on _) tw ?_)
  k_call_by "go" 0
  refine ⟨_,.skip (.skip (.skip .refl)),?_⟩
  rw [fm64,ofInt_neg]
  exact h
 | call a b iha ihb=>
  intro d n σ Φ hh tw h
  cases d with
  | zero=>exact tw.elim
  | succ d=>
  obtain ⟨hm4,ta,tb⟩:=tw
  obtain ⟨rfl,f,rfl,fw,rfl,inner⟩:=hcall hm4
  refine told_in X fun env p1 p2 p3 E=>?_
  have hs:=((hh.on (p3,.cel none)).on (p2,.cel none)).on (p1,.cel none)
  k_call_by "go" 0
  refine WG.lv (congrArg (·+7) (Nat.succ_add (n+d) 3)) (iha d n _ _ hs ta ?_)
  k_call_by "go" 0
  refine WG.lv (congrArg (·+7) (Nat.succ_add (n+d) 3)) (ihb d n _ _ hs tb ?_)
  have h':Φ (.int ((f.sem (told f.sem (fun k=>vs.getD k 0) a) (told f.sem (fun k=>vs.getD k 0) b)).toNat:Int)) σ:=h
  clear h
  generalize told f.sem (fun k=>vs.getD k 0) a=u at h' ⊢
  generalize told f.sem (fun k=>vs.getD k 0) b=v at h' ⊢
  k_call_by "go" 0
  refine inner f.t.a fw.1.1 u v _ _ _ ?_
  k_call_by "go" 0
  refine inner f.t.b (Tr.wf_leaf fw.1.2.1 fw.1.2.2) u v _ _ _ ?_
  k_call_by "go" 0
  refine k_lholds X ?_
  k_call_by "go" 0
  refine br_ (fun q=>?_) fun q=>?_
  ·k_call_by "go" 0
   refine inner f.y fw.2.1 u v _ _ _ ?_
   refine ⟨_,.skip (.skip (.skip .refl)),?_⟩
   rw [show told noFn (env2 u v) f.y=f.sem u v from (if_pos q).symm]
   exact h'
  ·k_call_by "go" 0
   refine inner f.n fw.2.2 u v _ _ _ ?_
   refine ⟨_,.skip (.skip (.skip .refl)),?_⟩
   rw [show told noFn (env2 u v) f.n=f.sem u v from (if_neg (by rw [q];exact Bool.false_ne_true)).symm]
   exact h'
 | two o a b iha ihb=>
  intro d n σ Φ hh tw h
  cases d with
  | zero=>exact tw.elim
  | succ d=>
  obtain ⟨ta,tb⟩:=tw
  refine told_in X fun env p1 p2 p3 E=>?_
  have hs:=((hh.on (p3,.cel none)).on (p2,.cel none)).on (p1,.cel none)
  k_call_by "go" 0
  refine WG.lv (congrArg (·+7) (Nat.succ_add (n+d) e)) (iha d n _ _ hs ta ?_)
  k_call_by "go" 0
  refine WG.lv (congrArg (·+7) (Nat.succ_add (n+d) e)) (ihb d n _ _ hs tb ?_)
  have h':Φ (.int ((o.op (told fn (fun k=>vs.getD k 0) a) (told fn (fun k=>vs.getD k 0) b)).toNat:Int)) σ:=h
  clear h
  generalize told fn (fun k=>vs.getD k 0) a=u at h' ⊢
  generalize told fn (fun k=>vs.getD k 0) b=v at h' ⊢
  by_cases ho:o=.and∨o=.or∨o=.xor
  ·have hc:(o.nm==("call":Str))=false:=by rcases ho with rfl|rfl|rfl<;>rfl
   have hmx:(o.nm==("max":Str))=false:=by rcases ho with rfl|rfl|rfl<;>rfl
   have hin:anyStr o.nm [.str "and",.str "or",.str "xor"]=some true:=by rcases ho with rfl|rfl|rfl<;>rfl
   k_call_by "go" 0
   refine s_cmp (F_t109.cok X E rfl) L_t109_0 rfl (i:=8) S_t109_0 (by kernel_rfl) ?_
   k_call_by "go" 0
   refine w_range ?_
   refine ⟨_,_,it_rng (hi:=64) (by decide),(by rw [irange_len];decide),fun cenv=>?_⟩
   refine comp_fm (fun ρ=>∃ x y,ρ=[x,y]) (fun _=>true) (pairOf u v) (r:=(irange 0 64).map (pairOf u v)) ⟨_,_,rfl⟩ (fun d' hd' ρ acc Z hR hZ=>?_) (by rw [List.filter_eq_self.mpr fun _ _=>rfl];rfl) ?_
   ·obtain ⟨i,hi,rfl⟩:=mem_irange hd'
    obtain ⟨x,y,rfl⟩:=hR
    have hi:i < 64:=hi
    have hp:=p2_ne i
    have hl:=p2_log hi
    k_call_by "go" 0
    exact hZ _ ⟨_,_,rfl⟩
   intro D
   k_call_by "go" 0
   with_reducible refine Stop.ok ?_
   refine e_dct (F_t109.cok X E rfl) S_t109_1 (by kernel_rfl) ?_
   k_call_by "go" 0
   intro L1
   k_call_by "go" 0
   intro L2
   k_call_by "go" 0
   intro L3
   k_call_by "go" 0
   intro L4
   k_call_by "go" 0
   obtain ⟨Lw,w1,w2⟩:∃ Lw,findS o.nm none [("and",AV.ref L1),("or",.ref L2),("xor",.ref L3)]=some (.ref Lw)∧(Lw,Cell.lst ((wantOf o).map .int))∈[(L3,Cell.lst [.int 1]),(L2,.lst [.int 1,.int 2]),(L1,.lst [.int 2])]:=by
    rcases ho with rfl|rfl|rfl
    ·exact ⟨L1,rfl,.tail _ (.tail _ (.head _))⟩
    ·exact ⟨L2,rfl,.tail _ (.head _)⟩
    ·exact ⟨L3,rfl,.head _⟩
   refine ⟨_,sub_sd (.head _) w1,?_⟩
   k_call_by "go" 0
   refine e_cmpr (F_t109.cok X E rfl) L_t109_2 rfl S_t109_2 ?_
   k_call_by "go" 0
   refine ⟨_,_,it_frz (by k_call_by "takeC" 0) rfl (it_lst fun d hd=>(pairs_tup hd).elim fun a h=>h.elim fun b e=>⟨_,e⟩),(by rw [List.length_map,irange_len];decide),fun cenv=>?_⟩
   refine comp_fm (fun ρ=>∃ x y z,ρ=[x,y,z]) (isWanted (wantOf o)) worthOf ⟨_,_,_,rfl⟩ (fun d' hd' ρ acc Z hR hZ=>?_) (worths_av ho u v) ?_
   ·obtain ⟨a',b',rfl⟩:=pairs_tup hd'
    obtain ⟨x,y,z,rfl⟩:=hR
    have hany:anyInt a' ((wantOf o).map .int)=some (isWanted (wantOf o) (.tup [.int a',.int b'])):=by rcases ho with rfl|rfl|rfl<;>rfl
    k_call_by "go" 0
    refine cs_inI (List.mem_cons_of_mem _ (List.mem_append_left _ w2)) hany ?_
    k_call_by "go" 0
    refine br_ (fun q=>?_) fun q=>?_
    ·k_call_by "go" 0
     rw [if_pos q] at hZ
     exact hZ _ ⟨_,_,_,rfl⟩
    ·rw [if_neg (by rw [q];exact Bool.false_ne_true)] at hZ
     exact hZ _ ⟨_,_,_,rfl⟩
   intro D5
   k_call_by "go" 0
   refine w_sum (.head _) ?_
   refine ⟨σ,.skip (.skip (.skip (.skip (.skip (.skip (.skip (.skip .refl))))))),?_⟩
   rw [worths_sum]
   exact h'
  ·cases o with
   | and=>exact absurd (.inl rfl) ho
   | or=>exact absurd (.inr (.inl rfl)) ho
   | xor=>exact absurd (.inr (.inr rfl)) ho
   | max=>
    k_call_by "go" 0
    refine k_signedL X ?_
    k_call_by "go" 0
    refine k_signedL X ?_
    k_call_by "go" 0
    refine br_d (fun q=>?_) fun q=>?_
    ·k_call_by "go" 0
     refine ⟨_,.skip (.skip (.skip .refl)),?_⟩
     rw [show u=O2.max.op u v from (if_pos q).symm]
     exact h'
    ·k_call_by "go" 0
     refine ⟨_,.skip (.skip (.skip .refl)),?_⟩
     rw [show v=O2.max.op u v from (if_neg q).symm]
     exact h'
   | sub=>
    k_call_by "go" 0
    refine ⟨_,.skip (.skip (.skip .refl)),?_⟩
    rw [fm64,ofInt_sub']
    exact h'
   | mul=>
    k_call_by "go" 0
    refine ⟨_,.skip (.skip (.skip .refl)),?_⟩
    rw [fm64,ofInt_mul]
    exact h'
   | add=>
    k_call_by "go" 0
    refine ⟨_,.skip (.skip (.skip .refl)),?_⟩
    rw [fm64,ofInt_add']
    exact h'
end
end
section
open Builtin Builtin.ObjectAttr
set_option tactic.hygienic false
@[reducible] noncomputable def gd (vs:List BV):Nat→BV:=fun k=>vs.getD k 0
noncomputable def do1 (fn:BV→BV→BV) (vs:List BV) (x:St1):List BV:=vs.set x.k (told fn (gd vs) x.t)
noncomputable def doN (fn:BV→BV→BV) (y:St1):Nat→List BV→List BV
 | 0,vs=>vs
 | k+1,vs=>doN fn y k (do1 fn vs y)
noncomputable def doS (fn:BV→BV→BV) (vs:List BV):Sm→List BV
 | .set x=>do1 fn vs x
 | .iff t y ns=>if t.c.hold (told fn (gd vs) t.a) (told fn (gd vs) t.b) then do1 fn vs y else ns.foldl (do1 fn) vs
 | .loop k y=>doN fn y k vs
theorem doN_succ (fn:BV→BV→BV) (y:St1):∀ (k:Nat) (vs:List BV),doN fn y (k+1) vs=do1 fn (doN fn y k vs) y
 | 0,_=>rfl
 | k+1,vs=>doN_succ fn y k (do1 fn vs y)
theorem do1_len (fn:BV→BV→BV) (vs:List BV) (x:St1):(do1 fn vs x).length=vs.length:=List.length_set ..
theorem do1s_len (fn:BV→BV→BV):∀ (xs:List St1) (vs:List BV),(xs.foldl (do1 fn) vs).length=vs.length
 | [],_=>rfl
 | x::xs,vs=>(do1s_len fn xs _).trans (do1_len ..)
theorem doN_len (fn:BV→BV→BV) (y:St1):∀ (k:Nat) (vs:List BV),(doN fn y k vs).length=vs.length
 | 0,_=>rfl
 | k+1,vs=>(doN_len fn y k _).trans (do1_len ..)
theorem doS_len (fn:BV→BV→BV) (vs:List BV) (x:Sm):(doS fn vs x).length=vs.length:=by
 cases x with
 | set x=>exact do1_len ..
 | iff t y ns=>
  show (if t.c.hold (told fn (gd vs) t.a) (told fn (gd vs) t.b)=true then do1 fn vs y else ns.foldl (do1 fn) vs).length=vs.length
  cases t.c.hold (told fn (gd vs) t.a) (told fn (gd vs) t.b) with
  | true=>exact do1_len ..
  | false=>exact do1s_len ..
 | loop k y=>exact doN_len ..
theorem bvs_set {vs:List BV} {k:Nat} {v:BV}:(bvs vs).set ((k:Int)).toNat (.int (v.toNat:Int))=bvs (vs.set k v):=by
 show (vs.map _).set k _=(vs.set k v).map _
 rw [List.map_set]
theorem Tr.wf_le {m:Nat}:∀ {t:Tr} {d e:Nat},t.wf m d→d≤e→t.wf m e
 | .num _,d,e,h,_=>by cases d<;>cases e<;>exact h
 | .var _,d,e,h,_=>by cases d<;>cases e<;>exact h
 | .neg t,0,_,h,_=>h.elim
 | .neg t,d+1,0,h,q=>by lia
 | .neg t,d+1,e+1,h,q=>Tr.wf_le (t:=t) (d:=d) (e:=e) h (by lia)
 | .call a b,0,_,h,_=>h.elim
 | .call a b,d+1,0,h,q=>by lia
 | .call a b,d+1,e+1,h,q=>⟨h.1,Tr.wf_le (t:=a) (d:=d) h.2.1 (by lia),Tr.wf_le (t:=b) (d:=d) h.2.2 (by lia)⟩
 | .two o a b,0,_,h,_=>h.elim
 | .two o a b,d+1,0,h,q=>by lia
 | .two o a b,d+1,e+1,h,q=>⟨Tr.wf_le (t:=a) (d:=d) h.1 (by lia),Tr.wf_le (t:=b) (d:=d) h.2 (by lia)⟩
theorem for_map {α:Type} {as:AV→Rho→St→Kt→Prop} {bd:Rho→St→Ks→Prop} {K:Ks} (av:α→AV) (P:List α→Rho→St→Prop) (h:∀ x xs ρ σ Z,P (x::xs) ρ σ→Lp K (P xs) Z→as (av x) ρ σ fun _ ρ σ=>bd ρ σ Z) (hK:∀ ρ σ,P [] ρ σ→K .next ρ σ):
  ∀ {xs:List α} {ρ:Rho} {σ:St},P xs ρ σ→forR as bd (xs.map av) ρ σ K
 | [],_,_,p=>hK _ _ p
 | x::xs,ρ,σ,p=>h x xs ρ σ (kF2 (forR as bd (xs.map av)) K) p ⟨fun p=>for_map av P h hK p,fun p=>for_map av P h hK p,id,id⟩
section
variable {Q:Bt} {n:Nat} {σ:St} {Φ:AV→St→Prop}
theorem k_told4 (X:Cx Q) {hv:AV} {vs:List BV} {f:Fn} (fw:f.wf) (hm:vs.length=4) (t:Tr) {d:Nat} (tw:t.wf 4 d) (hh:Hd hv vs σ)
  (h:Φ (.int ((told f.sem (gd vs) t).toNat:Int)) σ):WG Q (n+d+11) 109 [t.av,hv,f.av] σ Φ:=
 k_toldG X (e:=3) hm (Nat.le_refl 4) (fun _=>⟨rfl,f,rfl,fw,rfl,fun t tw a b n σ Φ h=>k_toldG X (m:=2) (e:=0) (vs:=[a,b]) (fv:=.none) (fn:=noFn) rfl (by decide) (fun q=>by cases q) t 1 n σ Φ (.inl rfl) tw h⟩) t d n σ Φ hh tw h
inductive St8 (hd:Addr) (sv fv:AV) (vs:List BV) (σ:St) (ρ:Rho) (σ':St):Prop
 | mk (x3 x4 x5 x6 x7 x8:Option AV) (e:ρ=[some sv,some (.ref hd),some fv,x3,x4,x5,x6,x7,x8]) (e2:σ'=(hd,.lst (bvs vs))::σ)
theorem k_do1 (X:Cx Q) {hd:Addr} {f:Fn} (fw:f.wf) (xs:List St1) {vs:List BV} (hm:vs.length=4) (hx:∀ x∈xs,x.wf 2)
  (h:Φ .none ((hd,.lst (bvs (xs.foldl (do1 f.sem) vs)))::σ)):WG Q (n+14) 110 [.lst (xs.map St1.av),.ref hd,f.av] ((hd,.lst (bvs vs))::σ) Φ:=by
 refine F_t110.wg X rfl rfl fun env E=>?_
 k_call_by "go" 0
 refine ⟨_,_,it_lst trivial,for_map St1.av (fun xs' ρ σ'=>∃ vs',vs'.length=4∧(∀ x∈xs',x.wf 2)∧St8 hd (.lst (xs.map St1.av)) f.av vs' σ ρ σ'∧Φ .none ((hd,.lst (bvs (xs'.foldl (do1 f.sem) vs')))::σ)) ?_ ?_ ⟨vs,hm,hx,⟨_,_,_,_,_,_,rfl,rfl⟩,h⟩⟩
 ·rintro x xs' ρ σ' Z ⟨vs,hm,hx,⟨x3,x4,x5,x6,x7,x8,rfl,rfl⟩,h⟩ zz
  have xw:=hx x (.head _)
  have xk:x.k < vs.length:=hm▸xw.1
  k_call_by "go" 0
  refine k_told4 X fw hm x.t (d:=2) xw.2 (.inr ⟨_,rfl,.head _⟩) ?_
  k_call_by "go" 0
  with_reducible refine Stop.ok ?_
  refine st_lst (Int.natCast_nonneg _) ?_
  k_call_by "up" 0
  refine And.intro ⟨by rw [List.length_map];lia,by rw [List.length_map];lia⟩ ?_
  exact zz.next ⟨_,(do1_len ..).trans hm,fun y hy=>hx y (.tail _ hy),⟨_,_,_,_,_,_,rfl,by rw [bvs_set];rfl⟩,h⟩
 ·rintro ρ σ' ⟨vs,hm,hx,⟨x3,x4,x5,x6,x7,x8,rfl,rfl⟩,h⟩
  exact ⟨_,.refl,h⟩
theorem k_doN (X:Cx Q) {hd:Addr} {f:Fn} (fw:f.wf) (xs:List Sm) {vs:List BV} (hm:vs.length=4) (hx:∀ x∈xs,x.wf)
  (h:Φ .none ((hd,.lst (bvs (xs.foldl (doS f.sem) vs)))::σ)):WG Q (n+16) 110 [.lst (xs.map Sm.av),.ref hd,f.av] ((hd,.lst (bvs vs))::σ) Φ:=by
 refine F_t110.wg X rfl rfl fun env E=>?_
 k_call_by "go" 0
 refine ⟨_,_,it_lst trivial,for_map Sm.av (fun xs' ρ σ'=>∃ vs',vs'.length=4∧(∀ x∈xs',x.wf)∧St8 hd (.lst (xs.map Sm.av)) f.av vs' σ ρ σ'∧Φ .none ((hd,.lst (bvs (xs'.foldl (doS f.sem) vs')))::σ)) ?_ ?_ ⟨vs,hm,hx,⟨_,_,_,_,_,_,rfl,rfl⟩,h⟩⟩
 ·rintro x xs' ρ σ' Z ⟨vs,hm,hx,⟨x3,x4,x5,x6,x7,x8,rfl,rfl⟩,h⟩ zz
  have xw:=hx x (.head _)
  have nx:∀ (vs':List BV) (ρ':Rho) (σ':St),vs'=doS f.sem vs x→St8 hd (.lst (xs.map Sm.av)) f.av vs' σ ρ' σ'→Z .next ρ' σ':=fun vs' ρ' σ' e s=>zz.next ⟨_,(doS_len ..).trans hm,fun y hy=>hx y (.tail _ hy),e▸s,h⟩
  cases x with
  | set x=>
   have xk:x.k < vs.length:=hm▸xw.1
   k_call_by "go" 0
   refine k_told4 X fw hm x.t (d:=2) xw.2 (.inr ⟨_,rfl,.head _⟩) ?_
   k_call_by "go" 0
   with_reducible refine Stop.ok ?_
   refine st_lst (Int.natCast_nonneg _) ?_
   k_call_by "up" 0
   refine And.intro ⟨by rw [List.length_map];lia,by rw [List.length_map];lia⟩ ?_
   exact nx _ _ _ rfl ⟨_,_,_,_,_,_,rfl,by rw [bvs_set];rfl⟩
  | iff t y ns=>
   k_call_by "go" 0
   refine k_told4 X fw hm t.a (d:=1) xw.1.1 (.inr ⟨_,rfl,.head _⟩) ?_
   k_call_by "go" 0
   refine k_told4 X fw hm t.b (d:=1) (Tr.wf_leaf xw.1.2.1 xw.1.2.2) (.inr ⟨_,rfl,.head _⟩) ?_
   k_call_by "go" 0
   refine k_lholds X ?_
   k_call_by "go" 0
   refine br_ (fun q=>?_) fun q=>?_
   ·k_call_by "go" 0
    refine k_do1 X fw [y] hm (all1 xw.2.1 all0) ?_
    exact nx _ _ _ (if_pos q).symm ⟨_,_,_,_,_,_,rfl,rfl⟩
   ·k_call_by "go" 0
    refine k_do1 X fw ns hm (fun z hz=>⟨(xw.2.2.2 z hz).1,Tr.wf_le (xw.2.2.2 z hz).2 (by decide)⟩) ?_
    exact nx _ _ _ (if_neg (by rw [q];exact Bool.false_ne_true)).symm ⟨_,_,_,_,_,_,rfl,rfl⟩
  | loop k y=>
   have yw:∀ z∈[y],z.wf 2:=all1 ⟨xw.2.1,Tr.wf_le xw.2.2 (by decide)⟩ all0
   have hk:=xw.1
   k_call_by "go" 0
   refine w_range ?_
   refine ⟨_,_,it_rng (hi:=k) (by lia),for_at (fun i ρ σ'=>St8 hd (.lst (xs.map Sm.av)) f.av (doN f.sem y i vs) σ ρ σ'∧ρ.getD 3 none=some (Sm.loop k y).av) ⟨⟨_,_,_,_,_,_,rfl,rfl⟩,rfl⟩ ?_ ?_⟩
   ·rintro i d ρ' σ' Z' e ⟨⟨x3,x4,x5,x6,x7,x8,rfl,rfl⟩,e3⟩ zz'
    cases e3
    k_call_by "go" 0
    refine k_do1 X fw [y] ((doN_len ..).trans hm) yw ?_
    refine zz'.next ⟨⟨_,_,_,_,_,_,rfl,?_⟩,rfl⟩
    rw [doN_succ]
    rfl
   ·rintro ρ' σ' ⟨s,_⟩
    rw [irange_len] at s
    exact nx _ _ _ rfl s
 ·rintro ρ σ' ⟨vs,hm,hx,⟨x3,x4,x5,x6,x7,x8,rfl,rfl⟩,h⟩
  exact ⟨_,.refl,h⟩
end
end
section
open Builtin Builtin.ObjectAttr
set_option tactic.hygienic false
inductive LR where
 | op (r:Row)|call (k:Int)|jmp (k:Int)|jcc (cn:Cd) (k:Int)|lab (k:Int)
noncomputable def LR.av:LR→AV
 | .op r=>rowV r.nm r.ops (-1)
 | .call k=>rowV "call" [] k
 | .jmp k=>rowV "jmp" [] k
 | .jcc cn k=>rowV ("j"++cn.nm) [] k
 | .lab k=>rowV "" [] k
inductive Dd:O2→Op→List LR→Prop
 | maxI (v:Int):Dd .max (.imm v) [.op (.movR 1 (.imm v)),.op (.cmp 0 (.reg 1)),.op (.cmov 0 (.reg 1))]
 | maxR:Dd .max (.reg 1) [.op (.cmp 0 (.reg 1)),.op (.cmov 0 (.reg 1))]
 | maxM (b far:Int):Dd .max (.mem b far) [.op (.cmp 0 (.mem b far)),.op (.cmov 0 (.mem b far))]
 | leaX:Dd .add (.reg 1) [.op (.leaX 0 0 1 0 0)]
 | lea (v:Int):Dd .add (.imm v) [.op (.lea 0 0 v 0)]
 | mul3 (v:Int):Dd .mul (.imm v) [.op (.mul3 0 0 v)]
 | mul2 (o:Op):Dd .mul o [.op (.mul2 0 o)]
 | add (o:Op):Dd .add o [.op (.bin "add" 0 o)]
 | sub (o:Op):Dd .sub o [.op (.bin "sub" 0 o)]
 | and (o:Op):Dd .and o [.op (.bin "and" 0 o)]
 | or (o:Op):Dd .or o [.op (.bin "or" 0 o)]
 | xor (o:Op):Dd .xor o [.op (.bin "xor" 0 o)]
inductive Em (hs:List Int) (tidy:Bool):Tr→List LR→Prop
 | num (v:Int):Em hs tidy (.num v) [.op (.movR 0 (.imm v))]
 | var (k:Nat):Em hs tidy (.var k) [.op (.movR 0 (.mem 5 (hs.getD k 0)))]
 | neg {t:Tr} {l:List LR} (h:Em hs tidy t l):Em hs tidy (.neg t) (l++[.op (.neg 0)])
 | call {a b:Tr} {la lb:List LR} (ha:Em hs tidy a la) (hb:Em hs tidy b lb):Em hs tidy (.call a b) (la++[.op (.push 0)]++lb++[.op (.push 0)]++[.call 0]++if tidy then [] else [.op (.bin "add" 4 (.imm 16))])
 | nearN {o:O2} {a:Tr} {v:Int} {la ld:List LR} (ha:Em hs tidy a la) (hd:Dd o (.imm v) ld):Em hs tidy (.two o a (.num v)) (la++ld)
 | nearV {o:O2} {a:Tr} {k:Nat} {la ld:List LR} (ha:Em hs tidy a la) (hd:Dd o (.mem 5 (hs.getD k 0)) ld):Em hs tidy (.two o a (.var k)) (la++ld)
 | far {o:O2} {a b:Tr} {la lb ld:List LR} {x:Row} (ha:Em hs tidy a la) (hb:Em hs tidy b lb) (hx:x=.movR 1 (.reg 0)∨x=.xchg 1 0) (hd:Dd o (.reg 1) ld):Em hs tidy (.two o a b) (la++[.op (.push 0)]++lb++[.op x,.op (.pop 0)]++ld)
inductive Bo (hs:List Int) (tidy:Bool) (a b:Tr) (l:List LR):Prop
 | mk (la lb:List LR) (x:Row) (ia:Em hs tidy a la) (ib:Em hs tidy b lb) (hx:x=Row.movR 1 (.reg 0)∨x=Row.xchg 1 0) (e:l=la++[.op (.push 0)]++lb++[.op x,.op (.pop 0)])
noncomputable def Rm (v:Nat) (rows:List AV):Prop:=rows.length+v≤300
theorem Rm.le {v w:Nat} {rows:List AV} (h:Rm w rows) (k:v≤w):Rm v rows:=Nat.le_trans (Nat.add_le_add_left k _) h
theorem Rm.on {v:Nat} {rows:List AV} {x:AV} (h:Rm (v+1) rows):Rm v (rows++[x]):=by
 rw [Rm,List.length_append,Nat.add_assoc,Nat.add_comm _ v]
 exact h
theorem Rm.z {v:Nat} {rows:List AV} (h:Rm v rows):rows.length≤2^20:=Nat.le_trans (Nat.le_add_right _ v) (Nat.le_trans h (by decide))
@[reducible] noncomputable def MD (mk rw pn:Addr) (rows:List AV) (marks:Int) (tidy:Bool) (cells:List Int) (s g:Int) (σ:St):St:=MC mk rw pn rows marks tidy (cells.map .int) s g σ
section
variable {Q:Bt} {n:Nat} {σ:St} {Φ:AV→St→Prop} {mk rw pn:Addr} {rows cells:List AV} {marks s g:Int} {tidy:Bool} {v:Nat}
theorem k_lawrowR (X:Cx Q) {name:Str} {ops:List AV} (hr:Rm (v+1) rows) (h:Rm v (rows++[rowV name ops (-1)])→Φ .none (MC mk rw pn (rows++[rowV name ops (-1)]) marks tidy cells s g σ)):
  WG Q (n+1) 113 [.ref mk,.str name,.lst ops] (MC mk rw pn rows marks tidy cells s g σ) Φ:=k_lawrow X hr.z (h hr.on)
theorem k_lawjumpR (X:Cx Q) {name:Str} {mark:Int} (hr:Rm (v+1) rows) (h:Rm v (rows++[rowV name [] mark])→Φ .none (MC mk rw pn (rows++[rowV name [] mark]) marks tidy cells s g σ)):
  WG Q (n+1) 114 [.ref mk,.str name,.int mark] (MC mk rw pn rows marks tidy cells s g σ) Φ:=k_lawjump X hr.z (h hr.on)
theorem k_ImmF (X:Cx Q) {x:AV} (h:Φ (.inst 75 [.str "imm",x,.str ""]) σ):WC Q (n+3) (.ref (cT 75)) [x] σ Φ:=WC.freeze (k_Imm X fun a=>⟨a,_,_,_,rfl,.here,rfl,h⟩)
theorem k_Mem4F (X:Cx Q) {x1 x2 x3 x4:AV} (h:Φ (.inst 77 [.str "mem",x1,x2,x3,x4,.int 0,.str "",.str ""]) σ):WC Q (n+3) (.ref (cT 77)) [x1,x2,x3,x4] σ Φ:=WC.freeze (k_Mem4 X fun a=>⟨a,_,_,_,rfl,.here,rfl,h⟩)
theorem WG.thin {j:Nat} {args:List AV} (h:WG Q n j args σ (thn Φ)):WG Q n j args σ Φ:=fun a ha=>WC.thin (h a ha)
end
section
variable {Q:Bt} {n:Nat} {σ:St} {Φ:AV→St→Prop} {mk rw pn:Addr} {rows:List AV} {marks s g:Int} {tidy:Bool} {cells:List Int} {u v:Nat}
theorem k_drawM (X:Cx Q) {many:Int} (hm:0 < many) (hM:many≤2^64) (hp:Pen cells (u+1) s)
  (h:∀ d s' g',0≤d→d < many→Pen cells u s'→Φ (.int d) (MD mk rw pn rows marks tidy cells s' g' σ)):
  WG Q (n+1) 100 [.ref pn,.int many] (MD mk rw pn rows marks tidy cells s g σ) Φ:=
 WG.thin (WG.sel (.take (.there (.there .here)) .refl) (k_draw X hm hM hp fun d s' g' d0 d1 hp=>⟨_,.take (.there .here) (.take (.there .here) .refl),h d s' g' d0 d1 hp⟩))
end
end
local macro_rules | `(tactic| k_call_by "g2" 0)=>`(tactic| first
 | k_call_by "g1" 0
 | (refine (?_:Stop _);refine ⟨?_⟩;first
  | (with_reducible refine k_lawrowR (by assumption) (by assumption) fun hr=>?_)
  | (with_reducible refine k_lawr (by assumption) (by decide) (by decide) ?_)
  | (with_reducible refine k_lawat (by assumption) (by decide) (by decide) ?_)
  | (with_reducible refine k_lawjumpR (by assumption) (by assumption) fun hr=>?_)
  | (with_reducible refine k_lawmark (by assumption) ?_)
  | (with_reducible refine k_ImmF (by assumption) ?_)
  | (with_reducible refine k_Mem4F (by assumption) ?_)
  | (with_reducible refine k_gpr (by assumption) (by decide) (by decide) ?_)))
local macro_rules | `(tactic| k_call_by "gl" 0)=>`(tactic| ((repeat k_call_by "g2" 0);try k_call_by "st" 0))
section
open Builtin Builtin.ObjectAttr
set_option tactic.hygienic false
section
variable {Q:Bt} {n:Nat} {σ:St} {Φ:AV→St→Prop} {mk rw pn:Addr} {rows:List AV} {marks s g:Int} {tidy:Bool} {cells:List Int} {u v:Nat}
set_option maxHeartbeats 1000000 in
theorem k_deed (X:Cx Q) {o:O2} {p:Op} (hp:p=.reg 1∨(∃ v,p=.imm v)∨∃ far,p=.mem 5 far) (hd:Pen cells (u+1) s) (hr:Rm (v+3) rows)
  (h:∀ ld s' g',Dd o p ld→Pen cells u s'→Rm v (rows++ld.map LR.av)→Φ .none (MD mk rw pn (rows++ld.map LR.av) marks tidy cells s' g' σ)):
  WG Q (n+7) 117 [.ref mk,.str o.nm,p.av] (MD mk rw pn rows marks tidy cells s g σ) Φ:=by
 have fin:∀ {ld:List LR} {r':List AV} {w:Nat} {s' g':Int},Dd o p ld→Pen cells u s'→Rm w r'→v≤w→r'=rows++ld.map LR.av→Φ .none (MD mk rw pn r' marks tidy cells s' g' σ):=fun hd hp hr hw e=>by
  subst e
  exact h _ _ _ hd hp (hr.le hw)
 refine F_t117.wg X rfl rfl fun env E=>?_
 k_call_by "gl" 0
 refine k_drawM X (by decide) (by decide) hd fun way s1 g1 w0 w1 hd=>?_
 cases o with
 | max=>
  rcases hp with rfl|⟨w,rfl⟩|⟨far,rfl⟩
  ·k_call_by "gl" 0
   exact ⟨_,.refl,fin .maxR hd ‹_› (Nat.le_succ v) (List.append_assoc ..)⟩
  ·k_call_by "gl" 0
   exact ⟨_,.refl,fin (.maxI w) hd ‹_› (Nat.le_refl v) (by rw [List.append_assoc,List.append_assoc];rfl)⟩
  ·k_call_by "gl" 0
   exact ⟨_,.refl,fin (.maxM 5 far) hd ‹_› (Nat.le_succ v) (List.append_assoc ..)⟩
 | sub=>
  k_call_by "gl" 0
  with_reducible refine Stop.ok ?_
  refine e_dct (F_t117.cok X E) S_t117_0 (by kernel_rfl) ?_
  k_call_by "gl" 0
  intro D
  k_call_by "gl" 0
  refine w_getS X (d:=.str "sub") (.head _) (by exact rfl) ?_
  k_call_by "gl" 0
  refine WG.sel (.skip .refl) (k_lawrowR X hr fun hr=>?_)
  exact ⟨_,.refl,fin (.sub _) hd ‹_› (Nat.le_add_right v 2) rfl⟩
 | and=>
  k_call_by "gl" 0
  with_reducible refine Stop.ok ?_
  refine e_dct (F_t117.cok X E) S_t117_0 (by kernel_rfl) ?_
  k_call_by "gl" 0
  intro D
  k_call_by "gl" 0
  refine w_getS X (d:=.str "and") (.head _) (by exact rfl) ?_
  k_call_by "gl" 0
  refine WG.sel (.skip .refl) (k_lawrowR X hr fun hr=>?_)
  exact ⟨_,.refl,fin (.and _) hd ‹_› (Nat.le_add_right v 2) rfl⟩
 | or=>
  k_call_by "gl" 0
  with_reducible refine Stop.ok ?_
  refine e_dct (F_t117.cok X E) S_t117_0 (by kernel_rfl) ?_
  k_call_by "gl" 0
  intro D
  k_call_by "gl" 0
  refine w_getS X (d:=.str "or") (.head _) (by exact rfl) ?_
  k_call_by "gl" 0
  refine WG.sel (.skip .refl) (k_lawrowR X hr fun hr=>?_)
  exact ⟨_,.refl,fin (.or _) hd ‹_› (Nat.le_add_right v 2) rfl⟩
 | xor=>
  k_call_by "gl" 0
  with_reducible refine Stop.ok ?_
  refine e_dct (F_t117.cok X E) S_t117_0 (by kernel_rfl) ?_
  k_call_by "gl" 0
  intro D
  k_call_by "gl" 0
  refine w_getS X (d:=.str "xor") (.head _) (by exact rfl) ?_
  k_call_by "gl" 0
  refine WG.sel (.skip .refl) (k_lawrowR X hr fun hr=>?_)
  exact ⟨_,.refl,fin (.xor _) hd ‹_› (Nat.le_add_right v 2) rfl⟩
 | add=>
  rcases hp with rfl|⟨w,rfl⟩|⟨far,rfl⟩
  ·k_call_by "gl" 0
   refine br_d (fun q=>?_) fun q=>?_
   ·k_call_by "gl" 0
    exact ⟨_,.refl,fin .leaX hd ‹_› (Nat.le_add_right v 2) rfl⟩
   ·k_call_by "gl" 0
    with_reducible refine Stop.ok ?_
    refine e_dct (F_t117.cok X E) S_t117_0 (by kernel_rfl) ?_
    k_call_by "gl" 0
    intro D
    k_call_by "gl" 0
    refine w_getS X (d:=.str "add") (.head _) (by exact rfl) ?_
    k_call_by "gl" 0
    refine WG.sel (.skip .refl) (k_lawrowR X hr fun hr=>?_)
    exact ⟨_,.refl,fin (.add _) hd ‹_› (Nat.le_add_right v 2) rfl⟩
  ·k_call_by "gl" 0
   refine br_d (fun q=>?_) fun q=>?_
   ·k_call_by "gl" 0
    refine br_d (fun q1=>?_) fun q1=>?_
    ·k_call_by "gl" 0
     refine br_d (fun q2=>?_) fun q2=>?_
     ·k_call_by "gl" 0
      exact ⟨_,.refl,fin (.lea w) hd ‹_› (Nat.le_add_right v 2) rfl⟩
     ·k_call_by "gl" 0
      with_reducible refine Stop.ok ?_
      refine e_dct (F_t117.cok X E) S_t117_0 (by kernel_rfl) ?_
      k_call_by "gl" 0
      intro D
      k_call_by "gl" 0
      refine w_getS X (d:=.str "add") (.head _) (by exact rfl) ?_
      k_call_by "gl" 0
      refine WG.sel (.skip .refl) (k_lawrowR X hr fun hr=>?_)
      exact ⟨_,.refl,fin (.add _) hd ‹_› (Nat.le_add_right v 2) rfl⟩
    ·k_call_by "gl" 0
     with_reducible refine Stop.ok ?_
     refine e_dct (F_t117.cok X E) S_t117_0 (by kernel_rfl) ?_
     k_call_by "gl" 0
     intro D
     k_call_by "gl" 0
     refine w_getS X (d:=.str "add") (.head _) (by exact rfl) ?_
     k_call_by "gl" 0
     refine WG.sel (.skip .refl) (k_lawrowR X hr fun hr=>?_)
     exact ⟨_,.refl,fin (.add _) hd ‹_› (Nat.le_add_right v 2) rfl⟩
   ·k_call_by "gl" 0
    with_reducible refine Stop.ok ?_
    refine e_dct (F_t117.cok X E) S_t117_0 (by kernel_rfl) ?_
    k_call_by "gl" 0
    intro D
    k_call_by "gl" 0
    refine w_getS X (d:=.str "add") (.head _) (by exact rfl) ?_
    k_call_by "gl" 0
    refine WG.sel (.skip .refl) (k_lawrowR X hr fun hr=>?_)
    exact ⟨_,.refl,fin (.add _) hd ‹_› (Nat.le_add_right v 2) rfl⟩
  ·k_call_by "gl" 0
   refine br_d (fun q=>?_) fun q=>?_
   ·k_call_by "gl" 0
    with_reducible refine Stop.ok ?_
    refine e_dct (F_t117.cok X E) S_t117_0 (by kernel_rfl) ?_
    k_call_by "gl" 0
    intro D
    k_call_by "gl" 0
    refine w_getS X (d:=.str "add") (.head _) (by exact rfl) ?_
    k_call_by "gl" 0
    refine WG.sel (.skip .refl) (k_lawrowR X hr fun hr=>?_)
    exact ⟨_,.refl,fin (.add _) hd ‹_› (Nat.le_add_right v 2) rfl⟩
   ·k_call_by "gl" 0
    with_reducible refine Stop.ok ?_
    refine e_dct (F_t117.cok X E) S_t117_0 (by kernel_rfl) ?_
    k_call_by "gl" 0
    intro D
    k_call_by "gl" 0
    refine w_getS X (d:=.str "add") (.head _) (by exact rfl) ?_
    k_call_by "gl" 0
    refine WG.sel (.skip .refl) (k_lawrowR X hr fun hr=>?_)
    exact ⟨_,.refl,fin (.add _) hd ‹_› (Nat.le_add_right v 2) rfl⟩
 | mul=>
  rcases hp with rfl|⟨w,rfl⟩|⟨far,rfl⟩
  ·k_call_by "gl" 0
   with_reducible refine Stop.ok ?_
   refine e_dct (F_t117.cok X E) S_t117_0 (by kernel_rfl) ?_
   k_call_by "gl" 0
   intro D
   k_call_by "gl" 0
   refine w_getS X (d:=.str "imul") (.head _) (by exact rfl) ?_
   k_call_by "gl" 0
   refine WG.sel (.skip .refl) (k_lawrowR X hr fun hr=>?_)
   exact ⟨_,.refl,fin (.mul2 _) hd ‹_› (Nat.le_add_right v 2) rfl⟩
  ·k_call_by "gl" 0
   exact ⟨_,.refl,fin (.mul3 w) hd ‹_› (Nat.le_add_right v 2) rfl⟩
  ·k_call_by "gl" 0
   with_reducible refine Stop.ok ?_
   refine e_dct (F_t117.cok X E) S_t117_0 (by kernel_rfl) ?_
   k_call_by "gl" 0
   intro D
   k_call_by "gl" 0
   refine w_getS X (d:=.str "imul") (.head _) (by exact rfl) ?_
   k_call_by "gl" 0
   refine WG.sel (.skip .refl) (k_lawrowR X hr fun hr=>?_)
   exact ⟨_,.refl,fin (.mul2 _) hd ‹_› (Nat.le_add_right v 2) rfl⟩
end
end
section
open Builtin Builtin.ObjectAttr
set_option tactic.hygienic false
noncomputable def RB:Tr→Nat→Nat
 | .num _,v|.var _,v=>v+1
 | .neg t,v=>RB t (v+1)
 | .call a b,v=>RB a (RB b (v+3)+1)
 | .two _ a b,v=>RB a (RB b (v+5)+1)
noncomputable def PB:Tr→Nat→Nat
 | .num _,u|.var _,u=>u
 | .neg t,u=>PB t u
 | .call a b,u=>PB a (PB b u)
 | .two _ a b,u=>PB a (PB b (u+2))+1
theorem RB_mono:∀ (t:Tr) {v w:Nat},v≤w→RB t v≤RB t w
 | .num _,_,_,h|.var _,_,_,h=>Nat.succ_le_succ h
 | .neg t,_,_,h=>RB_mono t (Nat.succ_le_succ h)
 | .call a b,_,_,h=>RB_mono a (Nat.succ_le_succ (RB_mono b (Nat.add_le_add_right h 3)))
 | .two _ a b,_,_,h=>RB_mono a (Nat.succ_le_succ (RB_mono b (Nat.add_le_add_right h 5)))
theorem PB_mono:∀ (t:Tr) {v w:Nat},v≤w→PB t v≤PB t w
 | .num _,_,_,h|.var _,_,_,h=>h
 | .neg t,_,_,h=>PB_mono t h
 | .call a b,_,_,h=>PB_mono a (PB_mono b h)
 | .two _ a b,_,_,h=>Nat.succ_le_succ (PB_mono a (PB_mono b (Nat.add_le_add_right h 2)))
theorem hs_get {hs:List Int} {k:Nat} (h:k < hs.length):(hs.map AV.int)[((k:Int)).toNat]?=some (.int (hs.getD k 0)):=by
 have:((k:Int)).toNat=k:=rfl
 rw [this,List.getElem?_map,List.getElem?_eq_getElem h,List.getD_eq_getElem?_getD,List.getElem?_eq_getElem h];rfl
section
variable {Q:Bt} {mk rw pn:Addr} {marks:Int} {tidy:Bool} {cells:List Int}
theorem WG.up1 {n j:Nat} {args:List AV} {σ:St} {Φ:AV→St→Prop} (h:WG Q n j args σ Φ):WG Q (n+1) j args σ Φ:=fun a ha A p vs G R=>h a ha A p vs G (R.le (Nat.le_succ n))
noncomputable def MadeOk (Q:Bt) (mk rw pn:Addr) (tidy:Bool) (cells:List Int) (m:Nat) (hs:List Int) (t:Tr):Prop:=
 ∀ (d n:Nat) (rows:List AV) (marks s g:Int) (σ:St) (Φ:AV→St→Prop) (u v:Nat) (tw:t.wf m d) (hp:Pen cells (PB t u) s) (hr:Rm (RB t v) rows)
  (h:∀ l s' g',Em hs tidy t l→Pen cells u s'→Rm v (rows++l.map LR.av)→Φ .none (MD mk rw pn (rows++l.map LR.av) marks tidy cells s' g' σ)),
  WG Q (n+2*d+9) 118 [.ref mk,t.av,.lst (hs.map .int)] (MD mk rw pn rows marks tidy cells s g σ) Φ
theorem k_both (X:Cx Q) {m:Nat} {hs:List Int} {a b:Tr} {bv:AV} (ebv:b.av=bv) (ha:MadeOk Q mk rw pn tidy cells m hs a) (hb:MadeOk Q mk rw pn tidy cells m hs b)
  {d n:Nat} {rows:List AV} {marks s g:Int} {σ:St} {Φ:AV→St→Prop} {u v:Nat} (ta:a.wf m d) (tb:b.wf m d) (hp:Pen cells (PB a (PB b (u+1))) s) (hr:Rm (RB a (RB b (v+2)+1)) rows)
  (h:∀ l s' g',Bo hs tidy a b l→Pen cells u s'→Rm v (rows++l.map LR.av)→Φ .none (MD mk rw pn (rows++l.map LR.av) marks tidy cells s' g' σ)):
  WG Q (n+2*d+10) 116 [.ref mk,a.av,bv,.lst (hs.map .int)] (MD mk rw pn rows marks tidy cells s g σ) Φ:=by
 subst ebv
 have fin:∀ {l:List LR} {r':List AV} {s' g':Int},Bo hs tidy a b l→Pen cells u s'→Rm v r'→r'=rows++l.map LR.av→Φ .none (MD mk rw pn r' marks tidy cells s' g' σ):=fun hd hp hr e=>by
  subst e
  exact h _ _ _ hd hp hr
 refine F_t116.wg X rfl rfl fun env E=>?_
 k_call_by "gl" 0
 refine ha d n _ _ _ _ _ _ _ _ ta hp hr fun la s1 g1 e1 hp hr=>?_
 k_call_by "gl" 0
 refine hb d n _ _ _ _ _ _ _ _ tb hp (by assumption) fun lb s2 g2 e2 hp hr=>?_
 k_call_by "gl" 0
 refine k_drawM X (by decide) (by decide) hp fun way s3 g3 w0 w1 hp=>?_
 k_call_by "gl" 0
 refine br_ (fun q=>?_) fun q=>?_
 ·k_call_by "gl" 0
  exact ⟨_,.refl,fin ⟨la,lb,_,e1,e2,.inl rfl,rfl⟩ hp ‹_› (by simp only [List.map_append,List.append_assoc];rfl)⟩
 ·k_call_by "gl" 0
  exact ⟨_,.refl,fin ⟨la,lb,_,e1,e2,.inr rfl,rfl⟩ hp ‹_› (by simp only [List.map_append,List.append_assoc];rfl)⟩
set_option maxHeartbeats 1000000 in
theorem k_made (X:Cx Q) {m:Nat} {hs:List Int} (hm:hs.length=m) (hm4:m≤4):∀ t:Tr,MadeOk Q mk rw pn tidy cells m hs t:=by
 intro t
 induction t with
 | num w=>
  intro d n rows marks s g σ Φ u v tw hp hr h
  have hr:Rm (v+1) rows:=hr
  refine F_t118.wg X rfl rfl fun env E=>?_
  k_call_by "gl" 0
  exact ⟨_,.refl,h [_] s g (.num w) hp ‹_›⟩
 | var k=>
  intro d n rows marks s g σ Φ u v tw hp hr h
  have hk:k < hs.length:=by cases d<;>exact hm▸tw
  have hr:Rm (v+1) rows:=hr
  refine F_t118.wg X rfl rfl fun env E=>?_
  k_call_by "gl" 0
  refine ⟨_,sub_lstF (Int.natCast_nonneg k) (by lia) (hs_get hk),?_⟩
  k_call_by "gl" 0
  exact ⟨_,.refl,h [_] s g (.var k) hp ‹_›⟩
 | neg t ih=>
  intro d n rows marks s g σ Φ u v tw hp hr h
  cases d with
  | zero=>exact tw.elim
  | succ d=>
  refine F_t118.wg X rfl rfl fun env E=>?_
  k_call_by "gl" 0
  refine (?_:WG Q (n+2*d+9+1) _ _ _ _)
  refine WG.up1 (ih d n _ _ _ _ _ _ _ _ tw hp hr fun la s1 g1 ea hp hr=>?_)
  k_call_by "gl" 0
  have e:rows++la.map LR.av++[LR.av (.op (.neg 0))]=rows++(la++[LR.op (.neg 0)]).map LR.av:=by rw [List.map_append,List.append_assoc];rfl
  have h:=h _ s1 g1 (.neg ea) hp
  rw [← e] at h
  exact ⟨_,.refl,h ‹_›⟩
 | call a b iha ihb=>
  intro d n rows marks s g σ Φ u v tw hp hr h
  cases d with
  | zero=>exact tw.elim
  | succ d=>
  obtain ⟨_,ta,tb⟩:=tw
  have fin:∀ {l:List LR} {r':List AV} {w:Nat} {s' g':Int},Em hs tidy (.call a b) l→Pen cells u s'→Rm w r'→v≤w→r'=rows++l.map LR.av→Φ .none (MD mk rw pn r' marks tidy cells s' g' σ):=fun hd hp hr hw e=>by
   subst e
   exact h _ _ _ hd hp (hr.le hw)
  refine F_t118.wg X rfl rfl fun env E=>?_
  k_call_by "gl" 0
  refine e_slT (F_t118.cok X E) S_t118_0 ?_
  k_call_by "gl" 0
  refine ⟨⟨Int.le_refl 1,(by show (1:Int)≤3;decide),(by show 3≤1000;decide)⟩,?_⟩
  k_call_by "gl" 0
  refine ⟨_,_,it_tup trivial,?_⟩
  k_call_by "gl" 0
  refine (?_:WG Q (n+2*d+9+1) _ _ _ _)
  refine WG.up1 (iha d n _ _ _ _ _ _ _ _ ta hp hr fun la s1 g1 ea hp hr=>?_)
  k_call_by "gl" 0
  refine (?_:WG Q (n+2*d+9+1) _ _ _ _)
  refine WG.up1 (ihb d n _ _ _ _ _ _ _ _ tb hp (by assumption) fun lb s2 g2 eb hp hr=>?_)
  k_call_by "gl" 0
  cases tidy with
  | true=>
   k_call_by "gl" 0
   exact ⟨_,.refl,fin (.call ea eb) hp ‹_› (Nat.le_succ v) (by simp only [List.map_append,List.append_assoc,if_true,List.map_nil,List.append_nil];rfl)⟩
  | false=>
   k_call_by "gl" 0
   exact ⟨_,.refl,fin (.call ea eb) hp ‹_› (Nat.le_refl v) (by simp only [List.map_append,List.append_assoc,Bool.false_eq_true,if_false];rfl)⟩
 | two o a b iha ihb=>
  intro d n rows marks s g σ Φ u v tw hp hr h
  cases d with
  | zero=>exact tw.elim
  | succ d=>
  obtain ⟨ta,tb⟩:=tw
  have hp:Pen cells (PB a (PB b (u+2))+1) s:=hp
  have hr:Rm (RB a (RB b (v+5)+1)) rows:=hr
  have fin:∀ {l:List LR} {r':List AV} {w:Nat} {s' g':Int},Em hs tidy (.two o a b) l→Pen cells u s'→Rm w r'→v≤w→r'=rows++l.map LR.av→Φ .none (MD mk rw pn r' marks tidy cells s' g' σ):=fun hd hp hr hw e=>by
   subst e
   exact h _ _ _ hd hp (hr.le hw)
  cases hb:b.leaf with
  | false=>
   cases b with
   | num _=>first|exact ffE hb|exact tfE hb|exact noE hb|cases hb
   | var _=>first|exact ffE hb|exact tfE hb|exact noE hb|cases hb
   | neg t=>
   refine F_t118.wg X rfl rfl fun env E=>?_
   k_call_by "gl" 0
   refine (?_:WG Q (n+2*d+10) _ _ _ _)
   refine k_both X rfl iha ihb ta tb (u:=u+1) (v:=v+3) (hp.le (Nat.le_succ _)) hr fun l s2 g2 e2 hp hr=>?_
   obtain ⟨la,lb,x,ea,ebb,hx,rfl⟩:=e2
   k_call_by "gl" 0
   refine k_deed (p:=.reg 1) X (.inl rfl) hp hr fun ld s3 g3 ed hp hr=>?_
   exact ⟨_,.refl,fin (.far ea ebb hx ed) hp hr (Nat.le_refl v) (by simp only [List.map_append,List.append_assoc])⟩
   | call y z=>
   refine F_t118.wg X rfl rfl fun env E=>?_
   k_call_by "gl" 0
   refine (?_:WG Q (n+2*d+10) _ _ _ _)
   refine k_both X rfl iha ihb ta tb (u:=u+1) (v:=v+3) (hp.le (Nat.le_succ _)) hr fun l s2 g2 e2 hp hr=>?_
   obtain ⟨la,lb,x,ea,ebb,hx,rfl⟩:=e2
   k_call_by "gl" 0
   refine k_deed (p:=.reg 1) X (.inl rfl) hp hr fun ld s3 g3 ed hp hr=>?_
   exact ⟨_,.refl,fin (.far ea ebb hx ed) hp hr (Nat.le_refl v) (by simp only [List.map_append,List.append_assoc])⟩
   | two p y z=>
   refine F_t118.wg X rfl rfl fun env E=>?_
   k_call_by "gl" 0
   refine (?_:WG Q (n+2*d+10) _ _ _ _)
   refine k_both X rfl iha ihb ta tb (u:=u+1) (v:=v+3) (hp.le (Nat.le_succ _)) hr fun l s2 g2 e2 hp hr=>?_
   obtain ⟨la,lb,x,ea,ebb,hx,rfl⟩:=e2
   k_call_by "gl" 0
   refine k_deed (p:=.reg 1) X (.inl rfl) hp hr fun ld s3 g3 ed hp hr=>?_
   exact ⟨_,.refl,fin (.far ea ebb hx ed) hp hr (Nat.le_refl v) (by simp only [List.map_append,List.append_assoc])⟩
  | true=>
   cases b with
   | num w=>
   refine F_t118.wg X rfl rfl fun env E=>?_
   k_call_by "gl" 0
   refine k_drawM X (by decide) (by decide) hp fun way s1 g1 w0 w1 hp=>?_
   k_call_by "gl" 0
   refine br_ (fun q=>?_) fun q=>?_
   ·k_call_by "gl" 0
    refine (?_:WG Q (n+2*d+9+1) _ _ _ _)
    refine WG.up1 (iha d n _ _ _ _ _ _ (u+1) (v+3) ta (hp.le (PB_mono a (Nat.le_succ _))) (hr.le (RB_mono a (Nat.add_le_add_left (by decide:3≤7) v))) fun la s2 g2 ea hp hr=>?_)
    k_call_by "gl" 0
    refine k_deed (p:=.imm w) X (.inr (.inl ⟨w,rfl⟩)) hp hr fun ld s3 g3 ed hp hr=>?_
    exact ⟨_,.refl,fin (.nearN ea ed) hp hr (Nat.le_refl v) (by simp only [List.map_append,List.append_assoc])⟩
   ·k_call_by "gl" 0
    refine (?_:WG Q (n+2*d+10) _ _ _ _)
    refine k_both X rfl iha ihb ta tb (u:=u+1) (v:=v+3) hp hr fun l s2 g2 e2 hp hr=>?_
    obtain ⟨la,lb,x,ea,ebb,hx,rfl⟩:=e2
    k_call_by "gl" 0
    refine k_deed (p:=.reg 1) X (.inl rfl) hp hr fun ld s3 g3 ed hp hr=>?_
    exact ⟨_,.refl,fin (.far ea ebb hx ed) hp hr (Nat.le_refl v) (by simp only [List.map_append,List.append_assoc])⟩
   | var k=>
   have hk:k < hs.length:=by cases d<;>exact hm▸tb
   refine F_t118.wg X rfl rfl fun env E=>?_
   k_call_by "gl" 0
   refine k_drawM X (by decide) (by decide) hp fun way s1 g1 w0 w1 hp=>?_
   k_call_by "gl" 0
   refine br_ (fun q=>?_) fun q=>?_
   ·k_call_by "gl" 0
    refine (?_:WG Q (n+2*d+9+1) _ _ _ _)
    refine WG.up1 (iha d n _ _ _ _ _ _ (u+1) (v+3) ta (hp.le (PB_mono a (Nat.le_succ _))) (hr.le (RB_mono a (Nat.add_le_add_left (by decide:3≤7) v))) fun la s2 g2 ea hp hr=>?_)
    k_call_by "gl" 0
    refine ⟨_,sub_lstF (Int.natCast_nonneg k) (by lia) (hs_get hk),?_⟩
    k_call_by "gl" 0
    refine k_deed (p:=.mem 5 (hs.getD k 0)) X (.inr (.inr ⟨_,rfl⟩)) hp hr fun ld s3 g3 ed hp hr=>?_
    exact ⟨_,.refl,fin (.nearV ea ed) hp hr (Nat.le_refl v) (by simp only [List.map_append,List.append_assoc])⟩
   ·k_call_by "gl" 0
    refine (?_:WG Q (n+2*d+10) _ _ _ _)
    refine k_both X rfl iha ihb ta tb (u:=u+1) (v:=v+3) hp hr fun l s2 g2 e2 hp hr=>?_
    obtain ⟨la,lb,x,ea,ebb,hx,rfl⟩:=e2
    k_call_by "gl" 0
    refine k_deed (p:=.reg 1) X (.inl rfl) hp hr fun ld s3 g3 ed hp hr=>?_
    exact ⟨_,.refl,fin (.far ea ebb hx ed) hp hr (Nat.le_refl v) (by simp only [List.map_append,List.append_assoc])⟩
   | neg _=>first|exact ffE hb|exact tfE hb|exact noE hb|cases hb
   | call _ _=>first|exact ffE hb|exact tfE hb|exact noE hb|cases hb
   | two _ _ _=>first|exact ffE hb|exact tfE hb|exact noE hb|cases hb
end
end
section
open Builtin Builtin.ObjectAttr
set_option tactic.hygienic false
inductive As (hs:List Int) (tidy:Bool) (t:Ts) (Qy Qn:List LR→Prop) (mark:Int) (l:List LR):Prop
 | mk (lb ly ln:List LR) (hb:Bo hs tidy t.a t.b lb) (qy:Qy ly) (qn:Qn ln) (e:l=lb++[.op (.cmp 0 (.reg 1)),.jcc t.c (mark+1)]++ln++[.jmp (mark+2),.lab (mark+1)]++ly++[.lab (mark+2)])
noncomputable def PartOk (Q:Bt) (mk rw pn:Addr) (tidy:Bool) (cells:List Int) (n:Nat) (f:Addr) (σ:St) (P:List LR→Prop) (rb pb:Nat→Nat):Prop:=
 ∀ (rows:List AV) (marks s g:Int) (Φ:AV→St→Prop) (u v:Nat) (hp:Pen cells (pb u) s) (hr:Rm (rb v) rows)
  (h:∀ l s' g',P l→Pen cells u s'→Rm v (rows++l.map LR.av)→Φ .none (MD mk rw pn (rows++l.map LR.av) marks tidy cells s' g' σ)),WC Q n (.ref f) [] (MD mk rw pn rows marks tidy cells s g σ) Φ
theorem Cd.nm_len (t:Cd):("j":Str).length+t.nm.length≤1000:=by cases t<;>decide +kernel
section
variable {Q:Bt} {mk rw pn:Addr} {marks:Int} {tidy:Bool} {cells:List Int}
theorem k_asked (X:Cx Q) {m:Nat} {hs:List Int} (hm:hs.length=m) (hm4:m≤4) {t:Ts} (tw:t.wf m) {f0 f1:Addr} {σ:St} {n:Nat} {Q0 Q1:List LR→Prop} {rb0 rb1 pb0 pb1:Nat→Nat}
  (hf0:KprS Q σ f0) (hf1:KprS Q σ f1) (p0:PartOk Q mk rw pn tidy cells (n+12) f0 σ Q0 rb0 pb0) (p1:PartOk Q mk rw pn tidy cells (n+12) f1 σ Q1 rb1 pb1)
  {rows:List AV} {marks s g:Int} {Φ:AV→St→Prop} {u v:Nat} (hp:Pen cells (PB t.a (PB t.b (pb1 (pb0 u)+1))) s) (hr:Rm (RB t.a (RB t.b (rb1 (rb0 (v+1)+2)+2+2)+1)) rows)
  (h:∀ l s' g',As hs tidy t Q0 Q1 marks l→Pen cells u s'→Rm v (rows++l.map LR.av)→Φ .none (MD mk rw pn (rows++l.map LR.av) (marks+2) tidy cells s' g' σ)):
  WG Q (n+13) 119 [.ref mk,t.av,.lst (hs.map .int),.lst [.ref f0,.ref f1]] (MD mk rw pn rows marks tidy cells s g σ) Φ:=by
 have fin:∀ {l:List LR} {r':List AV} {m' s' g':Int},As hs tidy t Q0 Q1 marks l→Pen cells u s'→Rm v r'→m'=marks+2→r'=rows++l.map LR.av→Φ .none (MD mk rw pn r' m' tidy cells s' g' σ):=fun hd hp hr em e=>by
  subst e em
  exact h _ _ _ hd hp hr
 obtain ⟨a0,b0,c0,d0,hf0⟩:=hf0
 obtain ⟨a1,b1,c1,d1,hf1⟩:=hf1
 have hl:=Cd.nm_len t.c
 refine F_t119.wg X rfl rfl fun env E=>?_
 k_call_by "gl" 0
 refine k_both (d:=1) (n:=n) X rfl (k_made X hm hm4 _) (k_made X hm hm4 _) tw.1 (Tr.wf_leaf tw.2.1 tw.2.2) hp hr fun lb s1 g1 eb hp hr=>?_
 k_call_by "gl" 0
 refine p1 _ _ _ _ _ _ _ hp (by assumption) fun ln s2 g2 q1 hp hr=>?_
 k_call_by "gl" 0
 refine p0 _ _ _ _ _ _ _ hp (by assumption) fun ly s3 g3 q0 hp hr=>?_
 k_call_by "gl" 0
 exact ⟨_,.refl,fin ⟨lb,ly,ln,eb,q0,q1,rfl⟩ hp ‹_› (Int.add_assoc ..) (by rw [← show marks+1+1=marks+2 from Int.add_assoc ..];simp only [List.map_append,List.append_assoc];rfl)⟩
end
end
section
open Builtin Builtin.ObjectAttr
set_option tactic.hygienic false
noncomputable def E1 (hs:List Int) (tidy:Bool) (x:St1) (l:List LR):Prop:=∃ la,Em hs tidy x.t la∧l=la++[.op (.movM 5 (hs.getD x.k 0) (.reg 0))]
noncomputable def E1s (hs:List Int) (tidy:Bool):List St1→List LR→Prop
 | [],l=>l=[]
 | x::xs,l=>∃ a b,E1 hs tidy x a∧E1s hs tidy xs b∧l=a++b
noncomputable def ES (hs:List Int) (tidy:Bool):Sm→Int→List LR→Int→Prop
 | .set x,m,l,m'=>E1 hs tidy x l∧m'=m
 | .iff t y ns,m,l,m'=>As hs tidy t (E1s hs tidy [y]) (E1s hs tidy ns) m l∧m'=m+2
 | .loop k y,m,l,m'=>∃ b,E1s hs tidy [y] b∧l=[.op (.movR 3 (.imm (k:Int))),.lab (m+1),.op (.test 3 (.reg 3)),.jcc .e (m+2)]++b++[.op (.dec 3),.jmp (m+1),.lab (m+2)]∧m'=m+2
noncomputable def ESs (hs:List Int) (tidy:Bool):List Sm→Int→List LR→Int→Prop
 | [],m,l,m'=>l=[]∧m'=m
 | x::xs,m,l,m'=>∃ a m1 b,ES hs tidy x m a m1∧ESs hs tidy xs m1 b m'∧l=a++b
section
variable {Q:Bt} {n:Nat} {σ σ':St} {Φ:AV→St→Prop}
theorem WX.sel {α β:Type} {env:Env} {R:FH→α→β→Prop} {t:Sem α} {ρ:Rho} {Φ:β→Rho→St→Prop} (hs:Sel σ σ') (h:WX Q n env R t ρ σ' Φ):WX Q n env R t ρ σ Φ:=fun A p G r a k=>h A p G r ⟨a.I.thin hs,a.F⟩ k
theorem COk.wtS (X:Cx Q) {i:Nat} {t:T} {ns pn cn:List Str} {gs:List Nat} {ρ0:Rho} {ds:List (Option AV)} {args:List AV} (h:COk (st i) t ns pn cn gs) (hi:ftIdx.elem i=true) (hl:args.length=pn.length) (h0:ns.map (fun x=>(pn.zip args).lookup x)=ρ0) (h1:cn.map (fun x=>(pn.zip args).lookup x)=ds)
  (τ:List Addr→St) (hτ:∀ as,as.length=ds.length→Sel (celS as ds++σ) (τ as))
  (k:∀ env as,as.length=ds.length→EnvOk env (scS (st i)) (cn.zip as)→(∃ c,env.code=.ref c∧CodeHd Q.hB c (tT i))→env.qual=nmS (st i)++".<locals>."→runS ⟨Q,n,env,ns,cn,as,true,gs⟩ 100 true t ρ0 (τ as) (retO (thn Φ))):WG Q (n+1) i args σ Φ:=fun a ha=>by
 obtain ⟨a',cc,e,h2,h3⟩:=X.ft i (elem_mem hi)
 rw [ha] at e
 cases e
 have o:=fOk_ok h.ho
 obtain ⟨n1,n2⟩:=Bool.and_eq_true_iff.mp h.nd
 refine WC.thin (WD.wc (wd_defC X h2 h.hb o h.ec (of_decide_eq_true n1) (fun x m=>((Bool.or_eq_true_iff).mp (List.all_eq_true.mp n2 x m)).imp elem_mem elem_mem) hl h0 h1 fun env as hl' E e1 e2=>WX.sel (hτ as hl') ?_))
 rw [h.ht]
 exact runS_ok (h.cok X E (by rw [hl',← h1,List.length_map])) 100 true t _ _ _ (k env as hl' E ⟨cc,e1,h3⟩ e2)
end
@[reducible] noncomputable def LC (p1 p2 p3 p4 mk:Addr) (o1 o2:Option AV) (hs:List Int) (σ:St):St:=(p1,.cel o1)::(p2,.cel o2)::(p3,.cel (some (.lst (hs.map .int))))::(p4,.cel (some (.ref mk)))::σ
theorem len4 {α:Type} {l:List α} (h:l.length=4):∃ a b c d,l=[a,b,c,d]:=allN 4 (P:=fun l=>∃ a b c d,l=[a,b,c,d]) (fun a b c d=>⟨a,b,c,d,rfl⟩) h
theorem laid_in {Q:Bt} {n:Nat} {σ:St} {Φ:AV→St→Prop} {mk rw pn:Addr} {rows:List AV} {marks s g:Int} {tidy:Bool} {cells:List Int} {hs:List Int} (X:Cx Q) {sv:AV}
  (k:∀ env p1 p2 p3 p4,EnvOk env (scS (st 120)) [("yes",p1),("no",p2),("homes",p3),("maker",p4)]→(∃ c,env.code=.ref c∧CodeHd Q.hB c (tT 120))→env.qual=nmS (st 120)++".<locals>." →
   runS ⟨Q,n,env,["statements","statement","top","end"],["yes","no","homes","maker"],[p1,p2,p3,p4],true,[118,113,112,111,119,115,75,114,120]⟩ 100 true t120 [some sv,none,none,none] (MD mk rw pn rows marks tidy cells s g (LC p1 p2 p3 p4 mk none none hs σ)) (retO (thn Φ))):
  WG Q (n+1) 120 [.ref mk,sv,.lst (hs.map .int)] (MD mk rw pn rows marks tidy cells s g σ) Φ:=by
 refine F_t120.wtS X (ρ0:=[some sv,none,none,none]) (ds:=[none,none,some (.lst (hs.map .int)),some (.ref mk)]) rfl rfl rfl rfl (fun as=>match as with
  | [p1,p2,p3,p4]=>MD mk rw pn rows marks tidy cells s g (LC p1 p2 p3 p4 mk none none hs σ)
  | _=>[]) (fun as ha=>?_) (fun env as ha E c q=>?_)
 ·obtain ⟨p1,p2,p3,p4,rfl⟩:=len4 ha
  exact (Sel.take (.there (.there (.there (.there .here)))) (.take (.there (.there (.there (.there .here)))) (.take (.there (.there (.there (.there .here)))) .refl)))
 ·obtain ⟨p1,p2,p3,p4,rfl⟩:=len4 ha
  exact k env p1 p2 p3 p4 E c q
end
section
open Builtin Builtin.ObjectAttr
set_option tactic.hygienic false
noncomputable def RS:List St1→Nat→Nat
 | [],v=>v
 | x::xs,v=>RB x.t (RS xs v+1)
noncomputable def PS:List St1→Nat→Nat
 | [],u=>u
 | x::xs,u=>PB x.t (PS xs u)
section
variable {Q:Bt} {mk rw pn:Addr} {marks:Int} {tidy:Bool} {cells:List Int}
inductive L1I (mk rw pn p1 p2 p3 p4:Addr) (marks:Int) (tidy:Bool) (cells:List Int) (hs:List Int) (xs:List St1) (σ:St) (Φ:AV→St→Prop) (u v:Nat) (xs':List St1):Rho→St→Prop
 | mk (rows':List AV) (s' g':Int) (x1 x2 x3:Option AV) (hp:Pen cells (PS xs' u) s') (hr:Rm (RS xs' v) rows') (xw:∀ x∈xs',x.wf 2)
  (h:∀ l s' g',E1s hs tidy xs' l→Pen cells u s'→Rm v (rows'++l.map LR.av)→Φ .none (MD mk rw pn (rows'++l.map LR.av) marks tidy cells s' g' σ)):
  L1I mk rw pn p1 p2 p3 p4 marks tidy cells hs xs σ Φ u v xs' [some (.lst (xs.map St1.av)),x1,x2,x3] (MD mk rw pn rows' marks tidy cells s' g' (LC p1 p2 p3 p4 mk none none hs σ))
theorem k_laid1 (X:Cx Q) {hs:List Int} (hm:hs.length=4) {xs:List St1} (xw:∀ x∈xs,x.wf 2)
  {n:Nat} {rows:List AV} {s g:Int} {σ:St} {Φ:AV→St→Prop} {u v:Nat} (hp:Pen cells (PS xs u) s) (hr:Rm (RS xs v) rows)
  (h:∀ l s' g',E1s hs tidy xs l→Pen cells u s'→Rm v (rows++l.map LR.av)→Φ .none (MD mk rw pn (rows++l.map LR.av) marks tidy cells s' g' σ)):
  WG Q (n+15) 120 [.ref mk,.lst (xs.map St1.av),.lst (hs.map .int)] (MD mk rw pn rows marks tidy cells s g σ) Φ:=by
 refine laid_in X fun env p1 p2 p3 p4 E _ _=>?_
 k_call_by "gl" 0
 refine ⟨_,_,it_lst trivial,for_map St1.av (L1I mk rw pn p1 p2 p3 p4 marks tidy cells hs xs σ Φ u v) ?_ ?_ ⟨_,_,_,_,_,_,hp,hr,xw,h⟩⟩
 ·rintro x xs' ρ σ' Z ⟨rows',s',g',x1,x2,x3,hp,hr,xw,h⟩ zz
  have xw0:=xw x (.head _)
  have xk:x.k < hs.length:=hm▸xw0.1
  k_call_by "gl" 0
  refine k_made X hm (Nat.le_refl 4) x.t 2 (n+1) _ _ _ _ _ _ _ _ xw0.2 hp hr fun la s1 g1 ea hp hr=>?_
  k_call_by "gl" 0
  refine ⟨_,sub_lstF (Int.natCast_nonneg _) (by lia) (hs_get xk),?_⟩
  k_call_by "gl" 0
  refine zz.next (.mk _ s1 g1 _ _ _ hp ‹_› (fun y hy=>xw y (.tail _ hy)) fun l s' g' el hp hr=>?_)
  have e:∀ l:List LR,rows'++la.map LR.av++[rowV "mov" [memO 5 .none (hs.getD x.k 0) 64,regO 0] (-1)]++l.map LR.av=rows'++((la++[LR.op (.movM 5 (hs.getD x.k 0) (.reg 0))])++l).map LR.av:=fun l=>by simp only [List.map_append,List.append_assoc];rfl
  have:=h _ s' g' ⟨_,l,⟨la,ea,rfl⟩,el,rfl⟩ hp
  rw [← e] at this
  exact this hr
 ·rintro ρ σ' ⟨rows',s',g',x1,x2,x3,hp,hr,xw,h⟩
  have:=h [] s' g' rfl hp
  rw [List.map_nil,List.append_nil] at this
  exact ⟨_,.take .here (.take .here (.take .here (.skip (.skip (.skip (.skip .refl)))))),this hr⟩
end
end
section
open Builtin Builtin.ObjectAttr
set_option tactic.hygienic false
section
variable {Q:Bt} {n:Nat} {env:Env} {sc:Scope} {cs:List (Str × Addr)} {σ:St} {ρ:Rho} {K:Kt} {raw p:Expr} {pos:Pos} {P:Addr} {q:Str} {cl:List (Str × Addr)}
theorem e_lam (X:Cx Q) (E:EnvOk env sc cs) (e:raw=.Lambda (laP p) (laB p) (lcS p) pos) (T:TabAt Q env σ P q) (hq:env.qual++"<lambda>"=q) (hdef:defaultsOf (laP p) env=([],[])) (hfree:((lcS p).names.all fun x=>x.2 != .free || (cs.lookup x.1).isSome)=true) (ecl:cloFor (lcS p) cs=cl)
  (h:∀ f,K (.ref f) ρ ((f,.fnc (laP p) (.expr (laB p)) (lcS p) cl)::σ)):Stop (WE Q n env raw ρ σ K):=by
 subst e ecl
 exact ⟨e_lambda X E T hq hdef hfree h⟩
end
noncomputable def laidQ:Str:=nmS (st 120)++".<locals>."++"<lambda>"
noncomputable def compQ:Str:=nmS (st 121)++".<locals>."++"<lambda>"
noncomputable def RSm:Sm→Nat→Nat
 | .set x,v=>RB x.t (v+1)
 | .iff t y ns,v=>RB t.a (RB t.b (RS ns (RS [y] (v+1)+2)+2+2)+1)
 | .loop _ y,v=>RS [y] (v+3)+4
noncomputable def PSm:Sm→Nat→Nat
 | .set x,u=>PB x.t u
 | .iff t y ns,u=>PB t.a (PB t.b (PS ns (PS [y] u)+1))
 | .loop _ y,u=>PS [y] u
noncomputable def RSs:List Sm→Nat→Nat
 | [],v=>v
 | x::xs,v=>RSm x (RSs xs v)
noncomputable def PSs:List Sm→Nat→Nat
 | [],u=>u
 | x::xs,u=>PSm x (PSs xs u)
end
section
open Builtin Builtin.ObjectAttr
set_option tactic.hygienic false
noncomputable abbrev lamY:Expr:=(kE (kE (kS (sA (kB (sA (kB (sA (kB (sA (bdS (st 120)) 0) 0) 0) 1) 0) 0) 1) 0) 4) 0)
noncomputable abbrev lamN:Expr:=(kE (kE (kS (sA (kB (sA (kB (sA (kB (sA (bdS (st 120)) 0) 0) 0) 1) 0) 0) 1) 0) 4) 1)
section
variable {Q:Bt} {mk rw pn:Addr} {tidy:Bool} {cells:List Int}
inductive L2I (mk rw pn p1 p2 p3 p4:Addr) (tidy:Bool) (cells:List Int) (hs:List Int) (xs:List Sm) (σ:St) (Φ:AV→St→Prop) (u v:Nat) (xs':List Sm):Rho→St→Prop
 | mk (rows':List AV) (marks' s' g':Int) (x1 x2 x3 o1 o2:Option AV) (τ:St) (hp:Pen cells (PSs xs' u) s') (hr:Rm (RSs xs' v) rows') (xw:∀ x∈xs',x.wf) (hτ:Sel τ σ)
  (h:∀ l m' s' g',ESs hs tidy xs' marks' l m'→Pen cells u s'→Rm v (rows'++l.map LR.av)→Φ .none (MD mk rw pn (rows'++l.map LR.av) m' tidy cells s' g' ((tT 120,.tab laidQ)::σ))):
  L2I mk rw pn p1 p2 p3 p4 tidy cells hs xs σ Φ u v xs' [some (.lst (xs.map Sm.av)),x1,x2,x3] (MD mk rw pn rows' marks' tidy cells s' g' (LC p1 p2 p3 p4 mk o1 o2 hs ((tT 120,.tab laidQ)::τ)))
set_option maxHeartbeats 1000000 in
theorem k_laid (X:Cx Q) {hs:List Int} (hm:hs.length=4) {xs:List Sm} (xw:∀ x∈xs,x.wf)
  {n:Nat} {rows:List AV} {marks s g:Int} {σ:St} {Φ:AV→St→Prop} {u v:Nat} (hp:Pen cells (PSs xs u) s) (hr:Rm (RSs xs v) rows)
  (h:∀ l m' s' g',ESs hs tidy xs marks l m'→Pen cells u s'→Rm v (rows++l.map LR.av)→Φ .none (MD mk rw pn (rows++l.map LR.av) m' tidy cells s' g' ((tT 120,.tab laidQ)::σ))):
  WG Q (n+19) 120 [.ref mk,.lst (xs.map Sm.av),.lst (hs.map .int)] (MD mk rw pn rows marks tidy cells s g ((tT 120,.tab laidQ)::σ)) Φ:=by
 refine laid_in X fun env p1 p2 p3 p4 E hc hq=>?_
 k_call_by "gl" 0
 refine ⟨_,_,it_lst trivial,for_map Sm.av (L2I mk rw pn p1 p2 p3 p4 tidy cells hs xs σ Φ u v) ?_ ?_ ⟨_,_,_,_,_,_,_,_,_,_,hp,hr,xw,.refl,h⟩⟩
 ·rintro x xs' ρ σ' Z ⟨rows',marks',s',g',x1,x2,x3,o1,o2,τ,hp,hr,xw,hτ,h⟩ zz
  have xw0:=xw x (.head _)
  have fin:∀ (a:List LR) {r':List AV} {m1 s1 g1:Int} {y1 y2 y3:Option AV} {o1' o2':Option AV} {τ':St},ES hs tidy x marks' a m1→Pen cells (PSs xs' u) s1→Rm (RSs xs' v) r'→r'=rows'++a.map LR.av→Sel τ' σ →
    Z .next [some (.lst (xs.map Sm.av)),y1,y2,y3] (MD mk rw pn r' m1 tidy cells s1 g1 (LC p1 p2 p3 p4 mk o1' o2' hs ((tT 120,.tab laidQ)::τ'))):=by
   intro a r' m1 s1 g1 y1 y2 y3 o1' o2' τ' ea hp hr e hτ
   subst e
   refine zz.next (.mk _ _ _ _ _ _ _ _ _ _ hp hr (fun y hy=>xw y (.tail _ hy)) hτ fun l m' s' g' el hp hr=>?_)
   have:=h (a++l) m' s' g' ⟨a,m1,l,ea,el,rfl⟩ hp
   rw [List.map_append,← List.append_assoc] at this
   exact this hr
  cases x with
  | set x=>
   have xk:x.k < hs.length:=hm▸xw0.1
   k_call_by "gl" 0
   refine k_made X hm (Nat.le_refl 4) x.t 2 (n+5) _ _ _ _ _ _ _ _ xw0.2 hp hr fun la s1 g1 ea hp hr=>?_
   k_call_by "gl" 0
   refine ⟨_,sub_lstF (Int.natCast_nonneg _) (by lia) (hs_get xk),?_⟩
   k_call_by "gl" 0
   exact fin _ ⟨⟨la,ea,rfl⟩,rfl⟩ hp ‹_› (by simp only [List.map_append,List.append_assoc];rfl) hτ
  | iff t y ns=>
   k_call_by "gl" 0
   with_reducible refine Stop.ok ?_
   refine e_lam X E S_t120_0 (cl:=[("yes",p1),("maker",p4),("homes",p3)]) ⟨hc,by k_call_by "mem" 0⟩ (by rw [hq];rfl) rfl (by kernel_rfl) (by kernel_rfl) fun f0=>?_
   k_call_by "gl" 0
   with_reducible refine Stop.ok ?_
   refine e_lam X E S_t120_1 (cl:=[("no",p2),("maker",p4),("homes",p3)]) ⟨hc,by k_call_by "mem" 0⟩ (by rw [hq];rfl) rfl (by kernel_rfl) (by kernel_rfl) fun f1=>?_
   k_call_by "gl" 0
   have part0:PartOk Q mk rw pn tidy cells (n+17) f0 (LC p1 p2 p3 p4 mk (some (.lst [y.av])) (some (.lst (ns.map St1.av))) hs ((tT 120,.tab laidQ)::(f1,.fnc (laP lamN) (.expr (laB lamN)) (lcS lamN) [("no",p2),("maker",p4),("homes",p3)])::(f0,.fnc (laP lamY) (.expr (laB lamY)) (lcS lamY) [("yes",p1),("maker",p4),("homes",p3)])::τ)) (E1s hs tidy [y]) (RS [y]) (PS [y]):=by
    intro rows marks s g Φ u v hp hr h
    refine L_t120_0.wl X (cl:=[("yes",p1),("maker",p4),("homes",p3)]) (ca:=[p1,p4,p3]) B_t120_0 (by k_call_by "mem" 0) rfl rfl rfl fun env'=>?_
    k_call_by "gl" 0
    exact k_laid1 X hm (xs:=[y]) (all1 xw0.2.1 all0) (n:=n+1) hp hr h
   have part1:PartOk Q mk rw pn tidy cells (n+17) f1 (LC p1 p2 p3 p4 mk (some (.lst [y.av])) (some (.lst (ns.map St1.av))) hs ((tT 120,.tab laidQ)::(f1,.fnc (laP lamN) (.expr (laB lamN)) (lcS lamN) [("no",p2),("maker",p4),("homes",p3)])::(f0,.fnc (laP lamY) (.expr (laB lamY)) (lcS lamY) [("yes",p1),("maker",p4),("homes",p3)])::τ)) (E1s hs tidy ns) (RS ns) (PS ns):=by
    intro rows marks s g Φ u v hp hr h
    refine L_t120_1.wl X (cl:=[("no",p2),("maker",p4),("homes",p3)]) (ca:=[p2,p4,p3]) B_t120_1 (by k_call_by "mem" 0) rfl rfl rfl fun env'=>?_
    k_call_by "gl" 0
    exact k_laid1 X hm (xs:=ns) (fun z hz=>⟨(xw0.2.2.2 z hz).1,Tr.wf_le (xw0.2.2.2 z hz).2 (by decide)⟩) (n:=n+1) hp hr h
   refine WG.sel (.take (.there (.there .here)) (.take (.there (.there .here)) (.take (.there (.there .here)) (.take (.there (.there .here)) (.take (.there (.there .here)) (.take (.there (.there .here)) (.take (.there (.there .here)) (.take (.there (.there .here)) .refl)))))))) ?_
   refine k_asked X hm (Nat.le_refl 4) xw0.1 (n:=n+5) (kpr (by k_call_by "mem" 0)) (kpr (by k_call_by "mem" 0)) part0 part1 hp hr fun l s1 g1 el hp hr=>?_
   exact fin _ ⟨el,rfl⟩ hp hr rfl (.skip (.skip hτ))
  | loop k y=>
   have hr:Rm (RS [y] (RSs xs' v+3)+4) rows':=hr
   k_call_by "gl" 0
   refine k_laid1 X hm (xs:=[y]) (all1 ⟨xw0.2.1,Tr.wf_le xw0.2.2 (by decide)⟩ all0) (n:=n+3) hp (by assumption) fun l s1 g1 el hp hr=>?_
   k_call_by "gl" 0
   exact fin _ (m1:=marks'+1+1) ⟨l,el,rfl,Int.add_assoc ..⟩ hp ‹_› (by rw [← show marks'+1+1=marks'+2 from Int.add_assoc ..];simp only [List.map_append,List.append_assoc];rfl) hτ
 ·rintro ρ σ' ⟨rows',marks',s',g',x1,x2,x3,o1,o2,τ,hp,hr,xw,hτ,h⟩
  have:=h [] marks' s' g' ⟨rfl,rfl⟩ hp
  rw [List.map_nil,List.append_nil] at this
  exact ⟨_,.take .here (.take .here (.take .here (.skip (.skip (.skip (.skip (.take .here hτ))))))),this hr⟩
end
end
section
open Builtin Builtin.ObjectAttr
set_option tactic.hygienic false
noncomputable def HL:List LR:=[.op .leave,.op .hlt]
noncomputable def Fl (tidy:Bool) (las:List LR):List LR:=[.lab 0,.op (.push 5),.op (.movR 5 (.reg 4))]++las++if tidy then [.op .leave,.op (.retI 16)] else [.op (.pop 5),.op .ret]
noncomputable def Pro (tidy:Bool) (v0 v1 v2 v3:BV):List LR:=
 [.op (.push 5),.op (.movR 5 (.reg 4)),.op (if tidy then .lea 4 4 (-32) 64 else .bin "sub" 4 (.imm 32)),
  .op (.movR 0 (.imm (v0.toNat:Int))),.op (.movM 5 (-8) (.reg 0)),.op (.movR 0 (.imm (v1.toNat:Int))),.op (.movM 5 (-16) (.reg 0)),
  .op (.movR 0 (.imm (v2.toNat:Int))),.op (.movM 5 (-24) (.reg 0)),.op (.movR 0 (.imm (v3.toNat:Int))),.op (.movM 5 (-32) (.reg 0))]
noncomputable def RF (f:Fn):Nat:=RB f.t.a (RB f.t.b (RB f.n (RB f.y 3+2)+2+2)+1)
noncomputable def PF (f:Fn) (u:Nat):Nat:=PB f.t.a (PB f.t.b (PB f.n (PB f.y u)+1))
@[reducible] noncomputable def CC (p1 p2 p3 mk:Addr) (o1 o2:Option AV) (σ:St):St:=(p1,.cel o1)::(p2,.cel o2)::(p3,.cel (some (.ref mk)))::σ
theorem comp_in {Q:Bt} {n:Nat} {σ:St} {Φ:AV→St→Prop} {mk rw pn:Addr} {rows:List AV} {marks s g:Int} {tidy:Bool} {cells:List Int} (X:Cx Q) {a1 a2 a3:AV}
  (k:∀ env p1 p2 p3,EnvOk env (scS (st 121)) [("yes",p1),("no",p2),("maker",p3)]→(∃ c,env.code=.ref c∧CodeHd Q.hB c (tT 121))→env.qual=nmS (st 121)++".<locals>." →
   runS ⟨Q,n,env,["firsts","statements","function","homes","home","worth","test"],["yes","no","maker"],[p1,p2,p3],true,[113,111,112,75,212,120,114,119]⟩ 100 true t121 [some a1,some a2,some a3,none,none,none,none] (MD mk rw pn rows marks tidy cells s g (CC p1 p2 p3 mk none none σ)) (retO (thn Φ))):
  WG Q (n+1) 121 [.ref mk,a1,a2,a3] (MD mk rw pn rows marks tidy cells s g σ) Φ:=by
 refine F_t121.wtS X (ρ0:=[some a1,some a2,some a3,none,none,none,none]) (ds:=[none,none,some (.ref mk)]) rfl rfl rfl rfl (fun as=>match as with
  | [p1,p2,p3]=>MD mk rw pn rows marks tidy cells s g (CC p1 p2 p3 mk none none σ)
  | _=>[]) (fun as ha=>?_) (fun env as ha E c q=>?_)
 ·obtain ⟨p1,p2,p3,rfl⟩:=len3 ha
  exact (Sel.take (.there (.there (.there .here))) (.take (.there (.there (.there .here))) (.take (.there (.there (.there .here))) .refl)))
 ·obtain ⟨p1,p2,p3,rfl⟩:=len3 ha
  exact k env p1 p2 p3 E c q
theorem comp_t (P:List AV) (Pl ls las:List LR) (e:P=Pl.map LR.av):P++ls.map LR.av++[rowV "leave" [] (-1)]++[rowV "hlt" [] (-1)]++[rowV "" [] 0]++[rowV "push" [regO 5] (-1)]++[rowV "mov" [regO 5,regO 4] (-1)]++las.map LR.av++[rowV "leave" [] (-1)]++[rowV "ret" [immO 16] (-1)]=(Pl++ls++HL++Fl true las).map LR.av:=by
 subst e
 simp only [Fl,HL,List.map_append,List.append_assoc,if_true]
 rfl
theorem comp_f (P:List AV) (Pl ls las:List LR) (e:P=Pl.map LR.av):P++ls.map LR.av++[rowV "leave" [] (-1)]++[rowV "hlt" [] (-1)]++[rowV "" [] 0]++[rowV "push" [regO 5] (-1)]++[rowV "mov" [regO 5,regO 4] (-1)]++las.map LR.av++[rowV "pop" [regO 5] (-1)]++[rowV "ret" [] (-1)]=(Pl++ls++HL++Fl false las).map LR.av:=by
 subst e
 simp only [Fl,HL,List.map_append,List.append_assoc,Bool.false_eq_true,if_false]
 rfl
end
section
open Builtin Builtin.ObjectAttr
set_option tactic.hygienic false
noncomputable abbrev cY:Expr:=(kE (kE (kS (sA (bdS (st 121)) 12) 0) 4) 0)
noncomputable abbrev cN:Expr:=(kE (kE (kS (sA (bdS (st 121)) 12) 0) 4) 1)
section
variable {Q:Bt} {mk rw pn:Addr} {cells:List Int}
set_option maxHeartbeats 1000000 in
theorem k_compT (X:Cx Q) {v0 v1 v2 v3:BV} {f:Fn} (fw:f.wf) {xs:List Sm} (xw:∀ x∈xs,x.wf)
  {n:Nat} {s g:Int} {σ:St} {Φ:AV→St→Prop} {u:Nat} (hp:Pen cells (PSs xs (PF f u)) s) (hr:Rm (RSs xs (RF f+5)+11) [])
  (h:∀ ls las m' s' g',ESs [-8,-16,-24,-32] true xs 0 ls m'→As [24,16] true f.t (Em [24,16] true f.y) (Em [24,16] true f.n) m' las→Pen cells u s'→Rm 0 ((Pro true v0 v1 v2 v3++ls++HL++Fl true las).map LR.av) →
   Φ .none (MD mk rw pn ((Pro true v0 v1 v2 v3++ls++HL++Fl true las).map LR.av) (m'+2) true cells s' g' ((tT 121,.tab compQ)::(tT 120,.tab laidQ)::σ))):
  WG Q (n+20) 121 [.ref mk,.lst [.int (v0.toNat:Int),.int (v1.toNat:Int),.int (v2.toNat:Int),.int (v3.toNat:Int)],.lst (xs.map Sm.av),f.av] (MD mk rw pn [] 0 true cells s g ((tT 121,.tab compQ)::(tT 120,.tab laidQ)::σ)) Φ:=by
 refine comp_in X fun env p1 p2 p3 E hc hq=>?_
 have fin:∀ {ls las:List LR} {m' s' g':Int} {r':List AV},ESs [-8,-16,-24,-32] true xs 0 ls m'→As [24,16] true f.t (Em [24,16] true f.y) (Em [24,16] true f.n) m' las→Pen cells u s'→Rm 0 r'→r'=(Pro true v0 v1 v2 v3++ls++HL++Fl true las).map LR.av →
   Φ .none (MD mk rw pn r' (m'+2) true cells s' g' ((tT 121,.tab compQ)::(tT 120,.tab laidQ)::σ)):=by
  intro ls las m' s' g' r' a b c d e
  subst e
  exact h _ _ _ _ _ a b c d
 have part0:∀ f0 f1,PartOk Q mk rw pn true cells (n+18) f0 ((f1,.fnc (laP cN) (.expr (laB cN)) (lcS cN) [("no",p2),("maker",p3)])::(f0,.fnc (laP cY) (.expr (laB cY)) (lcS cY) [("yes",p1),("maker",p3)])::(tT 120,.tab laidQ)::CC p1 p2 p3 mk (some f.y.av) (some f.n.av) ((tT 121,.tab compQ)::σ)) (Em [24,16] true f.y) (RB f.y) (PB f.y):=by
  intro f0 f1 rows marks s g Φ u v hp hr h
  refine L_t121_0.wl X (cl:=[("yes",p1),("maker",p3)]) (ca:=[p1,p3]) B_t121_0 (by k_call_by "mem" 0) rfl rfl rfl fun env'=>?_
  k_call_by "gl" 0
  exact k_made X (hs:=[24,16]) (m:=2) rfl (by decide) f.y 1 (n+6) _ _ _ _ _ _ _ _ fw.2.1 hp hr h
 have part1:∀ f0 f1,PartOk Q mk rw pn true cells (n+18) f1 ((f1,.fnc (laP cN) (.expr (laB cN)) (lcS cN) [("no",p2),("maker",p3)])::(f0,.fnc (laP cY) (.expr (laB cY)) (lcS cY) [("yes",p1),("maker",p3)])::(tT 120,.tab laidQ)::CC p1 p2 p3 mk (some f.y.av) (some f.n.av) ((tT 121,.tab compQ)::σ)) (Em [24,16] true f.n) (RB f.n) (PB f.n):=by
  intro f0 f1 rows marks s g Φ u v hp hr h
  refine L_t121_1.wl X (cl:=[("no",p2),("maker",p3)]) (ca:=[p2,p3]) B_t121_1 (by k_call_by "mem" 0) rfl rfl rfl fun env'=>?_
  k_call_by "gl" 0
  exact k_made X (hs:=[24,16]) (m:=2) rfl (by decide) f.n 1 (n+6) _ _ _ _ _ _ _ _ fw.2.2 hp hr h
 k_call_by "gl" 0
 refine w_zip fun Z=>?_
 refine ⟨_,_,it_self .here,?_⟩
 k_call_by "gl" 0
 refine WG.sel (.take .here (.take .here (.take .here (.take (.there (.there (.there (.there .here)))) .refl)))) ?_
 refine k_laid X (hs:=[-8,-16,-24,-32]) (rows:=(Pro true v0 v1 v2 v3).map LR.av) rfl xw (n:=n) hp ‹_› fun ls m' s1 g1 el hp hr=>?_
 k_call_by "gl" 0
 with_reducible refine Stop.ok ?_
 refine e_lam X E S_t121_0 (cl:=[("yes",p1),("maker",p3)]) ⟨hc,by k_call_by "mem" 0⟩ (by rw [hq];rfl) rfl (by kernel_rfl) (by kernel_rfl) fun f0=>?_
 k_call_by "gl" 0
 with_reducible refine Stop.ok ?_
 refine e_lam X E S_t121_1 (cl:=[("no",p2),("maker",p3)]) ⟨hc,by k_call_by "mem" 0⟩ (by rw [hq];rfl) rfl (by kernel_rfl) (by kernel_rfl) fun f1=>?_
 k_call_by "gl" 0
 refine WG.sel (.take (.there (.there .here)) (.take (.there (.there .here)) (.take (.there (.there .here)) .refl))) ?_
 refine k_asked X (hs:=[24,16]) (m:=2) rfl (by decide) fw.1 (n:=n+6) ?_ ?_ (part0 f0 f1) (part1 f0 f1) (u:=u) (v:=2) hp ?_ ?_
 ·exact ⟨_,_,_,_,.tail _ (.head _)⟩
 ·exact ⟨_,_,_,_,.head _⟩
 ·show Rm (RF f) _
  assumption
 intro las s2 g2 ea hp hr
 k_call_by "gl" 0
 refine ⟨_,.take .here (.take .here (.take .here (.take (.there (.there (.there (.there (.there (.there .here)))))) (.take (.there (.there .here)) (.skip (.skip (.skip (.skip (.skip .refl))))))))),?_⟩
 exact fin el ea hp ‹_› (comp_t _ (Pro true v0 v1 v2 v3) ls las rfl)
set_option maxHeartbeats 1000000 in
theorem k_compF (X:Cx Q) {v0 v1 v2 v3:BV} {f:Fn} (fw:f.wf) {xs:List Sm} (xw:∀ x∈xs,x.wf)
  {n:Nat} {s g:Int} {σ:St} {Φ:AV→St→Prop} {u:Nat} (hp:Pen cells (PSs xs (PF f u)) s) (hr:Rm (RSs xs (RF f+5)+11) [])
  (h:∀ ls las m' s' g',ESs [-8,-16,-24,-32] false xs 0 ls m'→As [24,16] false f.t (Em [24,16] false f.y) (Em [24,16] false f.n) m' las→Pen cells u s'→Rm 0 ((Pro false v0 v1 v2 v3++ls++HL++Fl false las).map LR.av) →
   Φ .none (MD mk rw pn ((Pro false v0 v1 v2 v3++ls++HL++Fl false las).map LR.av) (m'+2) false cells s' g' ((tT 121,.tab compQ)::(tT 120,.tab laidQ)::σ))):
  WG Q (n+20) 121 [.ref mk,.lst [.int (v0.toNat:Int),.int (v1.toNat:Int),.int (v2.toNat:Int),.int (v3.toNat:Int)],.lst (xs.map Sm.av),f.av] (MD mk rw pn [] 0 false cells s g ((tT 121,.tab compQ)::(tT 120,.tab laidQ)::σ)) Φ:=by
 refine comp_in X fun env p1 p2 p3 E hc hq=>?_
 have fin:∀ {ls las:List LR} {m' s' g':Int} {r':List AV},ESs [-8,-16,-24,-32] false xs 0 ls m'→As [24,16] false f.t (Em [24,16] false f.y) (Em [24,16] false f.n) m' las→Pen cells u s'→Rm 0 r'→r'=(Pro false v0 v1 v2 v3++ls++HL++Fl false las).map LR.av →
   Φ .none (MD mk rw pn r' (m'+2) false cells s' g' ((tT 121,.tab compQ)::(tT 120,.tab laidQ)::σ)):=by
  intro ls las m' s' g' r' a b c d e
  subst e
  exact h _ _ _ _ _ a b c d
 have part0:∀ f0 f1,PartOk Q mk rw pn false cells (n+18) f0 ((f1,.fnc (laP cN) (.expr (laB cN)) (lcS cN) [("no",p2),("maker",p3)])::(f0,.fnc (laP cY) (.expr (laB cY)) (lcS cY) [("yes",p1),("maker",p3)])::(tT 120,.tab laidQ)::CC p1 p2 p3 mk (some f.y.av) (some f.n.av) ((tT 121,.tab compQ)::σ)) (Em [24,16] false f.y) (RB f.y) (PB f.y):=by
  intro f0 f1 rows marks s g Φ u v hp hr h
  refine L_t121_0.wl X (cl:=[("yes",p1),("maker",p3)]) (ca:=[p1,p3]) B_t121_0 (by k_call_by "mem" 0) rfl rfl rfl fun env'=>?_
  k_call_by "gl" 0
  exact k_made X (hs:=[24,16]) (m:=2) rfl (by decide) f.y 1 (n+6) _ _ _ _ _ _ _ _ fw.2.1 hp hr h
 have part1:∀ f0 f1,PartOk Q mk rw pn false cells (n+18) f1 ((f1,.fnc (laP cN) (.expr (laB cN)) (lcS cN) [("no",p2),("maker",p3)])::(f0,.fnc (laP cY) (.expr (laB cY)) (lcS cY) [("yes",p1),("maker",p3)])::(tT 120,.tab laidQ)::CC p1 p2 p3 mk (some f.y.av) (some f.n.av) ((tT 121,.tab compQ)::σ)) (Em [24,16] false f.n) (RB f.n) (PB f.n):=by
  intro f0 f1 rows marks s g Φ u v hp hr h
  refine L_t121_1.wl X (cl:=[("no",p2),("maker",p3)]) (ca:=[p2,p3]) B_t121_1 (by k_call_by "mem" 0) rfl rfl rfl fun env'=>?_
  k_call_by "gl" 0
  exact k_made X (hs:=[24,16]) (m:=2) rfl (by decide) f.n 1 (n+6) _ _ _ _ _ _ _ _ fw.2.2 hp hr h
 k_call_by "gl" 0
 refine w_zip fun Z=>?_
 refine ⟨_,_,it_self .here,?_⟩
 k_call_by "gl" 0
 refine WG.sel (.take .here (.take .here (.take .here (.take (.there (.there (.there (.there .here)))) .refl)))) ?_
 refine k_laid X (hs:=[-8,-16,-24,-32]) (rows:=(Pro false v0 v1 v2 v3).map LR.av) rfl xw (n:=n) hp ‹_› fun ls m' s1 g1 el hp hr=>?_
 k_call_by "gl" 0
 with_reducible refine Stop.ok ?_
 refine e_lam X E S_t121_0 (cl:=[("yes",p1),("maker",p3)]) ⟨hc,by k_call_by "mem" 0⟩ (by rw [hq];rfl) rfl (by kernel_rfl) (by kernel_rfl) fun f0=>?_
 k_call_by "gl" 0
 with_reducible refine Stop.ok ?_
 refine e_lam X E S_t121_1 (cl:=[("no",p2),("maker",p3)]) ⟨hc,by k_call_by "mem" 0⟩ (by rw [hq];rfl) rfl (by kernel_rfl) (by kernel_rfl) fun f1=>?_
 k_call_by "gl" 0
 refine WG.sel (.take (.there (.there .here)) (.take (.there (.there .here)) (.take (.there (.there .here)) .refl))) ?_
 refine k_asked X (hs:=[24,16]) (m:=2) rfl (by decide) fw.1 (n:=n+6) ?_ ?_ (part0 f0 f1) (part1 f0 f1) (u:=u) (v:=2) hp ?_ ?_
 ·exact ⟨_,_,_,_,.tail _ (.head _)⟩
 ·exact ⟨_,_,_,_,.head _⟩
 ·show Rm (RF f) _
  assumption
 intro las s2 g2 ea hp hr
 k_call_by "gl" 0
 refine ⟨_,.take .here (.take .here (.take .here (.take (.there (.there (.there (.there (.there (.there .here)))))) (.take (.there (.there .here)) (.skip (.skip (.skip (.skip (.skip .refl))))))))),?_⟩
 exact fin el ea hp ‹_› (comp_f _ (Pro false v0 v1 v2 v3) ls las rfl)
theorem k_compiled (X:Cx Q) {tidy:Bool} {v0 v1 v2 v3:BV} {f:Fn} (fw:f.wf) {xs:List Sm} (xw:∀ x∈xs,x.wf)
  {n:Nat} {s g:Int} {σ:St} {Φ:AV→St→Prop} {u:Nat} (hp:Pen cells (PSs xs (PF f u)) s) (hr:Rm (RSs xs (RF f+5)+11) [])
  (h:∀ ls las m' s' g',ESs [-8,-16,-24,-32] tidy xs 0 ls m'→As [24,16] tidy f.t (Em [24,16] tidy f.y) (Em [24,16] tidy f.n) m' las→Pen cells u s'→Rm 0 ((Pro tidy v0 v1 v2 v3++ls++HL++Fl tidy las).map LR.av) →
   Φ .none (MD mk rw pn ((Pro tidy v0 v1 v2 v3++ls++HL++Fl tidy las).map LR.av) (m'+2) tidy cells s' g' ((tT 121,.tab compQ)::(tT 120,.tab laidQ)::σ))):
  WG Q (n+20) 121 [.ref mk,.lst [.int (v0.toNat:Int),.int (v1.toNat:Int),.int (v2.toNat:Int),.int (v3.toNat:Int)],.lst (xs.map Sm.av),f.av] (MD mk rw pn [] 0 tidy cells s g ((tT 121,.tab compQ)::(tT 120,.tab laidQ)::σ)) Φ:=by
 cases tidy with
 | true=>exact k_compT X fw xw hp hr h
 | false=>exact k_compF X fw xw hp hr h
end
end
section
open Builtin Builtin.ObjectAttr
set_option tactic.hygienic false
/-! the rows at their places -/
@[reducible] noncomputable def wdt (i:Nat):Int:=1+(i:Int).fmod 4
noncomputable def plc (lrs:List LR) (b:Int):Nat→Int
 | 0=>b
 | i+1=>match lrs[i]? with
  | some (.lab _)=>plc lrs b i
  | _=>plc lrs b i+1+(i:Int).fmod 4
noncomputable def mrk (lrs:List LR) (b:Int):Nat→Int→Option Int
 | 0=>fun _=>none
 | i+1=>match lrs[i]? with
  | some (.lab k)=>fun j=>if j=k then some (plc lrs b i) else mrk lrs b i j
  | _=>mrk lrs b i
noncomputable def jd (lrs:List LR) (b:Int) (i:Nat) (k:Int):Int:=(mrk lrs b lrs.length k).getD 0 - plc lrs b i - wdt i
noncomputable def rowOf (lrs:List LR) (b:Int) (i:Nat):LR→Row
 | .op r=>r
 | .call k=>.call (jd lrs b i k)
 | .jmp k=>.jmp (jd lrs b i k)
 | .jcc cn k=>.jcc ("j"++cn.nm) cn.nm (jd lrs b i k)
 | .lab _=>.hlt
noncomputable def fnd (lrs:List LR) (b:Int):Nat→Int→Option (Row × Int)
 | 0=>fun _=>none
 | i+1=>match lrs[i]? with
  | some (.lab _)=>fnd lrs b i
  | some x=>fun j=>if j=pl (plc lrs b i) then some (rowOf lrs b i x,wdt i) else fnd lrs b i j
  | none=>fnd lrs b i
noncomputable def LR.isLab:LR→Bool
 | .lab _=>true
 | _=>false
section
variable {lrs:List LR} {b:Int}
theorem wdt_bd (i:Nat):1≤wdt i∧wdt i≤4:=by
 unfold wdt
 rw [Int.fmod_eq_emod_of_nonneg _ (by decide)]
 lia
theorem plc_lab {i:Nat} {k:Int} (h:lrs[i]?=some (.lab k)):plc lrs b (i+1)=plc lrs b i:=by
 show (match lrs[i]? with|some (.lab _)=>plc lrs b i|_=>plc lrs b i+1+(i:Int).fmod 4)=_
 rw [h]
theorem plc_op {i:Nat} {x:LR} (h:lrs[i]?=some x) (hx:x.isLab=false):plc lrs b (i+1)=plc lrs b i+wdt i:=by
 show (match lrs[i]? with|some (.lab _)=>plc lrs b i|_=>plc lrs b i+1+(i:Int).fmod 4)=_
 rw [h]
 cases x<;>first|exact ffE hx|exact tfE hx|exact noE hx|(cases hx;done)|(show plc lrs b i+1+_=plc lrs b i+(1+_);lia)
theorem plc_mono (i:Nat):plc lrs b i≤plc lrs b (i+1)∧plc lrs b (i+1)≤plc lrs b i+4:=by
 have h4:=wdt_bd i
 unfold wdt at h4
 show plc lrs b i≤(match lrs[i]? with|some (.lab _)=>plc lrs b i|_=>plc lrs b i+1+(i:Int).fmod 4)∧(match lrs[i]? with|some (.lab _)=>plc lrs b i|_=>plc lrs b i+1+(i:Int).fmod 4)≤_
 generalize lrs[i]?=o
 rcases o with _|x
 ·show plc lrs b i≤plc lrs b i+1+_∧plc lrs b i+1+_≤_;lia
 ·cases x<;>first|(show plc lrs b i≤plc lrs b i+1+(i:Int).fmod 4∧plc lrs b i+1+(i:Int).fmod 4≤_;lia)|(show plc lrs b i≤plc lrs b i∧plc lrs b i≤_;lia)
theorem plc_le {i:Nat}:∀ {d:Nat},plc lrs b i≤plc lrs b (i+d)∧plc lrs b (i+d)≤plc lrs b i+4*(d:Int)
 | 0=>⟨Int.le_refl _,by simp⟩
 | d+1=>by
  have:=plc_le (i:=i) (d:=d)
  have:=plc_mono (lrs:=lrs) (b:=b) (i+d)
  rw [← Nat.add_assoc]
  lia
theorem pl_ne {i j:Nat} {x:LR} (hij:i < j) (hj:j < 2^20) (h:lrs[i]?=some x) (hx:x.isLab=false):pl (plc lrs b i)≠pl (plc lrs b j):=by
 obtain ⟨d,rfl⟩:∃ d,j=i+1+d:=⟨j - (i+1),by lia⟩
 have h1:=plc_op (b:=b) h hx
 have h2:=plc_le (lrs:=lrs) (b:=b) (i:=i+1) (d:=d)
 have h3:=wdt_bd i
 unfold pl
 rw [BitVec.toNat_ofInt,BitVec.toNat_ofInt]
 intro e
 have:(2:Int)^64=18446744073709551616:=rfl
 generalize plc lrs b (i+1+d)=q at *
 generalize plc lrs b i=p at *
 lia
theorem fnd_get {i:Nat} {x:LR} (h:lrs[i]?=some x) (hx:x.isLab=false) (n:Nat):i < n→n≤2^20→fnd lrs b n (pl (plc lrs b i))=some (rowOf lrs b i x,wdt i):=by
 induction n with
 | zero=>exact fun q=>absurd q (Nat.not_lt_zero i)
 | succ n ih=>
  intro hi hn
  by_cases e:i=n
  ·subst e
   show (match lrs[i]? with|some (.lab _)=>fnd lrs b i|some x=>fun j=>if j=pl (plc lrs b i) then some (rowOf lrs b i x,wdt i) else fnd lrs b i j|none=>fnd lrs b i) _=_
   rw [h]
   cases x<;>first|exact ffE hx|exact tfE hx|exact noE hx|(cases hx;done)|(show (if _=_ then _ else _)=_;rw [if_pos rfl])
  ·have ih:=ih (by lia) (by lia)
   have ne:=pl_ne (b:=b) (show i < n by lia) (by lia) h hx
   show (match lrs[n]? with|some (.lab _)=>fnd lrs b n|some x=>fun j=>if j=pl (plc lrs b n) then some (rowOf lrs b n x,wdt n) else fnd lrs b n j|none=>fnd lrs b n) _=_
   generalize lrs[n]?=o
   rcases o with _|x
   ·exact ih
   ·cases x<;>first|exact ih|(show (if _=_ then _ else _)=_;rw [if_neg ne];exact ih)
noncomputable def Uniq (lrs:List LR):Prop:=∀ (i j:Nat) (k:Int),lrs[i]?=some (LR.lab k)→lrs[j]?=some (LR.lab k)→i=j
theorem mrk_get (u:Uniq lrs):∀ {n i:Nat} {k:Int},i < n→lrs[i]?=some (.lab k)→mrk lrs b n k=some (plc lrs b i)
 | n+1,i,k,hi,h=>by
  by_cases e:i=n
  ·subst e
   show (match lrs[i]? with|some (.lab k)=>fun j=>if j=k then some (plc lrs b i) else mrk lrs b i j|_=>mrk lrs b i) k=_
   rw [h]
   show (if _=_ then _ else _)=_
   rw [if_pos rfl]
  ·have ih:=mrk_get u (n:=n) (i:=i) (by lia) h
   show (match lrs[n]? with|some (.lab k)=>fun j=>if j=k then some (plc lrs b n) else mrk lrs b n j|_=>mrk lrs b n) k=_
   generalize hq:lrs[n]?=o
   rcases o with _|x
   ·exact ih
   ·cases x with
    | lab k'=>
     show (if k=k' then _ else _)=_
     rw [if_neg (fun q=>e (u i n k h (by rw [q];exact hq)))]
     exact ih
    | _=>exact ih
theorem jd_eq (u:Uniq lrs) {i j:Nat} {k:Int} (h:lrs[j]?=some (.lab k)):jd lrs b i k=plc lrs b j - plc lrs b i - wdt i:=by
 have hj:j < lrs.length:=by
  obtain ⟨q,_⟩:=List.getElem?_eq_some_iff.mp h
  exact q
 unfold jd
 rw [mrk_get u hj h];rfl
theorem ofInt_nat (x y:Int):BitVec.ofInt 64 (((BitVec.ofInt 64 x).toNat:Int)+y)=BitVec.ofInt 64 (x+y):=by rw [BitVec.ofInt_add,ofInt_self,← BitVec.ofInt_add]
end
noncomputable def LR.tgt:LR→Option Int
 | .call k|.jmp k|.jcc _ k=>some k
 | _=>none
noncomputable def LR.nmS:LR→Str
 | .op r=>r.nm
 | .call _=>"call"
 | .jmp _=>"jmp"
 | .jcc cn _=>"j"++cn.nm
 | .lab _=>""
noncomputable def plA (lrs:List LR) (b:Int) (i:Nat):List AV:=(List.range i).map fun j=>.int (plc lrs b j)
noncomputable def mkA (lrs:List LR) (b:Int) (i:Nat):Int→Option AV:=fun k=>(mrk lrs b i k).map .int
theorem plA_succ (lrs:List LR) (b:Int) (i:Nat):plA lrs b i++[.int (plc lrs b i)]=plA lrs b (i+1):=by
 unfold plA;rw [List.range_succ,List.map_append];rfl
theorem plA_len (lrs:List LR) (b:Int) (i:Nat):(plA lrs b i).length=i:=by unfold plA;rw [List.length_map,List.length_range]
theorem plA_get {lrs:List LR} {b:Int} {n i:Nat} (h:i < n):(plA lrs b n)[((i:Int)).toNat]?=some (.int (plc lrs b i)):=by
 have:((i:Int)).toNat=i:=rfl
 unfold plA
 rw [this,List.getElem?_map,List.getElem?_range h];rfl
theorem mkA_lab {lrs:List LR} {b:Int} {i:Nat} {k:Int} (h:lrs[i]?=some (.lab k)):(fun j=>if j=k then some (AV.int (plc lrs b i)) else mkA lrs b i j)=mkA lrs b (i+1):=by
 funext j
 show _=Option.map AV.int ((match lrs[i]? with|some (.lab k)=>fun j=>if j=k then some (plc lrs b i) else mrk lrs b i j|_=>mrk lrs b i) j)
 rw [h]
 show _=Option.map AV.int (if j=k then some (plc lrs b i) else mrk lrs b i j)
 by_cases e:j=k
 ·rw [if_pos e,if_pos e];rfl
 ·rw [if_neg e,if_neg e];rfl
theorem mkA_op {lrs:List LR} {b:Int} {i:Nat} {x:LR} (h:lrs[i]?=some x) (hx:x.isLab=false):mkA lrs b (i+1)=mkA lrs b i:=by
 funext j
 show Option.map AV.int ((match lrs[i]? with|some (.lab k)=>fun j=>if j=k then some (plc lrs b i) else mrk lrs b i j|_=>mrk lrs b i) j)=_
 rw [h]
 cases x<;>first|exact ffE hx|exact tfE hx|exact noE hx|(cases hx;done)|rfl
theorem fnd_lab {lrs:List LR} {b:Int} {i:Nat} {k:Int} (h:lrs[i]?=some (.lab k)):fnd lrs b (i+1)=fnd lrs b i:=by
 show (match lrs[i]? with|some (.lab _)=>fnd lrs b i|some x=>fun j=>if j=pl (plc lrs b i) then some (rowOf lrs b i x,wdt i) else fnd lrs b i j|none=>fnd lrs b i)=_
 rw [h]
theorem fnd_op {lrs:List LR} {b:Int} {i:Nat} {x:LR} (h:lrs[i]?=some x) (hx:x.isLab=false):(fun j=>if j=pl (plc lrs b i) then some (decV (insV (rowOf lrs b i x).nm (rowOf lrs b i x).ops) (wdt i)) else progM (fnd lrs b i) j)=progM (fnd lrs b (i+1)):=by
 funext j
 show _=Option.map _ ((match lrs[i]? with|some (.lab _)=>fnd lrs b i|some x=>fun j=>if j=pl (plc lrs b i) then some (rowOf lrs b i x,wdt i) else fnd lrs b i j|none=>fnd lrs b i) j)
 rw [h]
 have:∀ y:LR,y.isLab=false→(match some y with|some (.lab _)=>fnd lrs b i|some x=>fun j=>if j=pl (plc lrs b i) then some (rowOf lrs b i x,wdt i) else fnd lrs b i j|none=>fnd lrs b i) j=(if j=pl (plc lrs b i) then some (rowOf lrs b i y,wdt i) else fnd lrs b i j):=fun y hy=>by cases y<;>first|exact ffE hy|exact tfE hy|exact noE hy|(cases hy;done)|rfl
 rw [this x hx]
 by_cases e:j=pl (plc lrs b i)
 ·rw [if_pos e,if_pos e];rfl
 ·rw [if_neg e,if_neg e];rfl
theorem LR.av_eq (x:LR):∃ ops mk,x.av=rowV x.nmS ops mk:=by
 cases x<;>exact ⟨_,_,rfl⟩
theorem Row.ops_len (r:Row):r.ops.length≤1000:=by cases r<;>exact Nat.le_of_ble_eq_true rfl
section
variable {Q:Bt} {C:Cn} {σ:St} {ρ:Rho} {K:Kt} {raw:Expr} {pos:Pos} {n:Nat} {Φ:AV→St→Prop}
theorem e_dct0 {c:Cell} (q:raw=.Dict [] [] pos) (hc:c=.sd []∨c=.zd (fun _=>none) 0) (h:∀ D,K (.ref D) ρ ((D,c)::σ)):Stop (WE C.Q C.n C.env raw ρ σ K):=by
 subst q
 exact ⟨e_dict0 hc h⟩
theorem k_InstrF (X:Cx Q) {x:AV} {l:List AV} (hz:l.length≤1000) (h:Φ (.inst 78 [x,.tup l,.str ""]) σ):WC Q (n+3) (.ref (cT 78)) [x,.lst l] σ Φ:=WC.freeze (k_Instruction X hz fun a=>⟨a,_,_,_,rfl,.here,rfl,h⟩)
theorem k_DecF (X:Cx Q) {x y z u:AV} (h:Φ (.inst 58 [x,y,z,u]) σ):WC Q (n+2) (.ref (cT 58)) [x,y,z,u] σ Φ:=WC.freeze (k_Decoded X fun a=>⟨a,_,_,_,rfl,.here,rfl,h⟩)
theorem k_RelF (X:Cx Q) {x:AV} (h:Φ (.inst 76 [.str "rel",x,.str ""]) σ):WC Q (n+3) (.ref (cT 76)) [x] σ Φ:=WC.freeze (k_Rel X fun a=>⟨a,_,_,_,rfl,.here,rfl,h⟩)
end
end
section
open Builtin Builtin.ObjectAttr
set_option tactic.hygienic false
section
variable {Q:Bt}
theorem e_get {lrs:List LR} {i:Nat} {d:AV} (h:(enums 0 (lrs.map LR.av))[i]?=some d):∃ x,lrs[i]?=some x∧i < lrs.length∧d=.tup [.int (i:Int),x.av]:=by
 obtain ⟨e,h1,rfl⟩:=enums_get h
 rw [List.getElem?_map] at h1
 obtain ⟨x,h2,rfl⟩:=Option.map_eq_some_iff.mp h1
 exact ⟨x,h2,(List.getElem?_eq_some_iff.mp h2).1,by rw [Nat.zero_add]⟩
inductive PI1 (lrs:List LR) (b:Int) (Pl Mk Fd:Addr) (σ:St) (i:Nat) (ρ:Rho) (σ':St):Prop
 | mk (z:Nat) (x6 x7:Option AV) (hz:z≤i) (e1:ρ=[some (.lst (lrs.map LR.av)),some (.int b),some (.ref Pl),some (.ref Mk),some (.ref Fd),some (.int (plc lrs b i)),x6,x7,none,none])
  (e2:σ'=(Fd,.zd (fun _=>none) 0)::(Mk,.zd (mkA lrs b i) z)::(Pl,.lst (plA lrs b i))::σ)
inductive PI2 (lrs:List LR) (b:Int) (Pl Mk Fd:Addr) (σ:St) (z1:Nat) (i:Nat) (ρ:Rho) (σ':St):Prop
 | mk (z:Nat) (x6 x7 x8 x9:Option AV) (hz:z≤i) (e1:ρ=[some (.lst (lrs.map LR.av)),some (.int b),some (.ref Pl),some (.ref Mk),some (.ref Fd),some (.int (plc lrs b lrs.length)),x6,x7,x8,x9])
  (e2:σ'=(Fd,.zd (progM (fnd lrs b i)) z)::(Mk,.zd (mkA lrs b lrs.length) z1)::(Pl,.lst (plA lrs b lrs.length))::σ)
set_option maxHeartbeats 1000000 in
theorem k_program (X:Cx Q) {lrs:List LR} {b:Int} (hn:lrs.length≤1000) (hok:∀ (i:Nat) x,lrs[i]?=some x→x.isLab=false→(x.nmS==("":Str))=false)
  (hj:∀ (i:Nat) x k,lrs[i]?=some x→x.tgt=some k→0≤k∧∃ v,mrk lrs b lrs.length k=some v) {n:Nat} {σ:St} {Φ:AV→St→Prop}
  (h:∀ pa z,z≤lrs.length→Φ (.ref pa) ((pa,.zd (progM (fnd lrs b lrs.length)) z)::σ)):WG Q (n+10) 122 [.lst (lrs.map LR.av),.int b] σ Φ:=by
 refine F_t122.wg X rfl rfl fun env E=>?_
 k_call_by "go" 0
 intro Pl
 k_call_by "go" 0
 with_reducible refine Stop.ok ?_
 refine e_dct0 S_t122_0 (.inr rfl) fun Mk=>?_
 k_call_by "go" 0
 with_reducible refine Stop.ok ?_
 refine e_dct0 S_t122_1 (.inr rfl) fun Fd=>?_
 k_call_by "go" 0
 refine w_enum fun Z=>?_
 have hlen:(enums 0 (lrs.map LR.av)).length=lrs.length:=by rw [enums_length,List.length_map]
 refine ⟨_,_,it_self .here,for_at (PI1 lrs b Pl Mk Fd σ) ⟨0,_,_,Nat.le_refl 0,rfl,rfl⟩ ?_ ?_⟩
 ·rintro i d ρ σ' Z e ⟨z,x6,x7,hz,rfl,rfl⟩ zz
  obtain ⟨x,hx,hi,rfl⟩:=e_get e
  have hpl:=plA_len lrs b i
  cases hlab:x.isLab with
  | true=>
   obtain ⟨k,rfl⟩:∃ k,x=.lab k:=by cases x<;>first|exact ⟨_,rfl⟩|exact ffE hlab|exact tfE hlab|exact noE hlab|cases hlab
   k_call_by "go" 0
   k_call_by "app" 0
   k_call_by "go" 0
   with_reducible refine Stop.ok ?_
   refine st_zd (m:=mkA lrs b i) (z:=z) (by lia) ?_
   k_call_by "up" 0
   refine And.intro rfl ?_
   exact zz.next ⟨z+1,_,_,Nat.succ_le_succ hz,by rw [plc_lab hx];rfl,by rw [← mkA_lab hx,← plA_succ]⟩
  | false=>
   have hnm:=hok i x hx hlab
   obtain ⟨ops,mk,ea⟩:=LR.av_eq x
   rw [ea]
   k_call_by "go" 0
   k_call_by "app" 0
   k_call_by "go" 0
   exact zz.next ⟨z,_,_,Nat.le_succ_of_le hz,by rw [plc_op hx hlab,show plc lrs b i+wdt i=plc lrs b i+1+(i:Int).fmod 4 from (Int.add_assoc ..).symm];rfl,by rw [mkA_op hx hlab,← plA_succ]⟩
 ·rintro ρ σ' ⟨z1,x6,x7,hz1,rfl,rfl⟩
  rw [hlen]
  k_call_by "go" 0
  refine w_enum fun Z=>?_
  refine ⟨_,_,it_self .here,for_at (PI2 lrs b Pl Mk Fd σ z1) ⟨0,_,_,_,_,Nat.le_refl 0,rfl,rfl⟩ ?_ ?_⟩
  ·rintro i d ρ σ' Z e ⟨z,x6,x7,x8,x9,hz,rfl,rfl⟩ zz
   obtain ⟨x,hx,hi,rfl⟩:=e_get e
   have hi1:(i:Int) < 2^62:=by lia
   cases hlab:x.isLab with
   | true=>
    obtain ⟨k,rfl⟩:∃ k,x=.lab k:=by cases x<;>first|exact ⟨_,rfl⟩|exact ffE hlab|exact tfE hlab|exact noE hlab|cases hlab
    k_call_by "go" 0
    exact zz.next ⟨z,_,_,_,_,Nat.le_succ_of_le hz,rfl,by rw [fnd_lab hx]⟩
   | false=>
    have hnm:=hok i x hx hlab
    have ef:=fnd_op (b:=b) hx hlab
    by_cases ht:∃ r,x=.op r
    ·obtain ⟨r,rfl⟩:=ht
     have hnm:(r.nm==("":Str))=false:=hnm
     k_call_by "go" 0
     refine k_InstrF X (Row.ops_len r) ?_
     k_call_by "go" 0
     refine k_DecF X ?_
     k_call_by "go" 0
     refine ⟨_,sub_lst (by k_call_by "mem" 0) (Int.natCast_nonneg _) hi1 (plA_get hi),?_⟩
     k_call_by "go" 0
     with_reducible refine Stop.ok ?_
     refine st_zd (m:=progM (fnd lrs b i)) (z:=z) (by lia) ?_
     k_call_by "up" 0
     refine And.intro rfl ?_
     exact zz.next ⟨z+1,_,_,_,_,Nat.succ_le_succ hz,rfl,by rw [fm64,← ef];rfl⟩
    ·obtain ⟨k,hk,ea,er1,er2⟩:∃ k,x.tgt=some k∧x.av=rowV x.nmS [] k∧(rowOf lrs b i x).nm=x.nmS∧(rowOf lrs b i x).ops=[relO (jd lrs b i k)]:=by
      cases x<;>first|exact ⟨_,rfl,rfl,rfl,rfl⟩|exact absurd ⟨_,rfl⟩ ht|exact ffE hlab|exact tfE hlab|exact noE hlab|cases hlab
     obtain ⟨k0,v,hv⟩:=hj i x k hx hk
     have hk0:¬ k < 0:=Int.not_lt.mpr k0
     have ej:jd lrs b i k=v - plc lrs b i - wdt i:=by unfold jd;rw [hv];rfl
     rw [ej] at er2
     rw [er1,er2] at ef
     rw [ea]
     k_call_by "go" 0
     refine ⟨_,sub_zd (m:=mkA lrs b lrs.length) (z:=z1) (d:=.int v) (by k_call_by "mem" 0) (by unfold mkA;rw [hv];rfl),?_⟩
     k_call_by "go" 0
     refine ⟨_,sub_lst (by k_call_by "mem" 0) (Int.natCast_nonneg _) hi1 (plA_get hi),?_⟩
     k_call_by "go" 0
     refine k_RelF X ?_
     k_call_by "go" 0
     refine k_InstrF X (by show 1≤1000;decide) ?_
     k_call_by "go" 0
     refine k_DecF X ?_
     k_call_by "go" 0
     refine ⟨_,sub_lst (by k_call_by "mem" 0) (Int.natCast_nonneg _) hi1 (plA_get hi),?_⟩
     k_call_by "go" 0
     with_reducible refine Stop.ok ?_
     refine st_zd (m:=progM (fnd lrs b i)) (z:=z) (by lia) ?_
     k_call_by "up" 0
     refine And.intro rfl ?_
     exact zz.next ⟨z+1,_,_,_,_,Nat.succ_le_succ hz,rfl,by rw [fm64,← ef];rfl⟩
  ·rintro ρ σ' ⟨z,x6,x7,x8,x9,hz,rfl,rfl⟩
   rw [hlen]
   exact ⟨_,.take .here (.skip (.skip .refl)),h _ _ (hlen▸hz)⟩
end
end
section
open Builtin Builtin.ObjectAttr
set_option tactic.hygienic false
theorem COk.wmS {Q:Bt} {n:Nat} {σ:St} {Φ:AV→St→Prop} (X:Cx Q) {t:T} {ns pn cn:List Str} {gs:List Nat} {ρ0:Rho} {ds:List (Option AV)} {args:List AV} (h:COk (mth 49 6) t ns pn cn gs) (hl:args.length=pn.length) (h0:ns.map (fun x=>(pn.zip args).lookup x)=ρ0) (h1:cn.map (fun x=>(pn.zip args).lookup x)=ds)
  (τ:List Addr→St) (hτ:∀ as,as.length=ds.length→Sel (celS as ds++σ) (τ as))
  (k:∀ env as,as.length=ds.length→EnvOk env (scS (mth 49 6)) (cn.zip as)→runS ⟨Q,n,env,ns,cn,as,true,gs⟩ 100 true t ρ0 (τ as) (retO (thn Φ))):WM Q (n+1) 49 6 args σ Φ:=fun f hf=>by
 obtain ⟨f',q,cd,e,h2⟩:=X.mo
 have e:f'=f:=by
  simp only [methIn,Bool.and_eq_true,beq_iff_eq] at hf e
  have:=e.1.1.2.symm.trans hf.1.1.2
  cases this;rfl
 subst e
 have o:=fOk_ok h.ho
 obtain ⟨n1,n2⟩:=Bool.and_eq_true_iff.mp h.nd
 refine WC.thin (WD.wc (wd_defC X h2 h.hb o h.ec (of_decide_eq_true n1) (fun x m=>((Bool.or_eq_true_iff).mp (List.all_eq_true.mp n2 x m)).imp elem_mem elem_mem) hl h0 h1 fun env as hl' E e1 e2=>WX.sel (hτ as hl') ?_))
 rw [h.ht]
 exact runS_ok (h.cok X E (by rw [hl',← h1,List.length_map])) 100 true t _ _ _ (k env as hl' E)
noncomputable def mint:List B8:=[111,99,116,101,116,109,105,110,116]
theorem mint_at {β:Type} (f:B8→β) {i:Nat} (h:i < 9):(mint.map f)[i]?=some (f (mint.getD i 0)):=by rw [List.getElem?_map,List.getD_eq_getElem?_getD,List.getElem?_eq_getElem (show i < mint.length from h)];rfl
noncomputable abbrev mintB:Array UInt8:=#[111,99,116,101,116,109,105,110,116]
noncomputable def ldN (H:Int→Option B8):Nat→Int→Option B8
 | 0=>H
 | j+1=>upd (ldN H j) (pl (32768+j)) (some (mint.getD j 0))
noncomputable def ld9 (H:Int→Option B8):Int→Option B8:=ldN H 9
noncomputable def octOf (H:Int→Option B8):AV→AV
 | .int i=>.int ((oct H (32768+i)).toNat:Int)
 | d=>d
end
section
open Builtin Builtin.ObjectAttr
set_option tactic.hygienic false
section
variable {Q:Bt} {n:Nat} {σ:St} {Φ:AV→St→Prop}
theorem k_pen (X:Cx Q) {cells:List Int} (hz:cells.length≤1000) (h:∀ pn,Φ (.ref pn) ((pn,.lst (penL (cells.take 40) 0 0))::σ)):WG Q (n+1) 99 [.lst (cells.map .int)] σ Φ:=by
 refine F_t99.wg X rfl rfl fun env E=>?_
 k_call_by "go" 0
 refine WE.freeze (e_cmpr (F_t99.cok X E) L_t99_1 rfl S_t99_1 ?_)
 k_call_by "go" 0
 refine WE.freeze (e_slL (F_t99.cok X E) S_t99_0 ?_)
 k_call_by "go" 0
 refine ⟨cells.map .int,by decide,.inl rfl,by rw [List.length_map];lia,fun D=>⟨D,_,_,_,rfl,.here,rfl,?_⟩⟩
 have hl:=List.length_take_le 40 cells
 refine ⟨_,_,it_lst trivial,by rw [← List.map_take,List.length_map];exact Nat.le_trans hl (by decide),fun cenv=>?_⟩
 refine comp_fm (fun ρ=>∃ x y,ρ=[x,y]) (fun _=>true) id (r:=(cells.take 40).map .int) ⟨_,_,rfl⟩ (fun d' hd' ρ acc Z hR hZ=>?_) (by rw [List.filter_eq_self.mpr fun _ _=>rfl,List.map_id,← List.map_take];rfl) ?_
 ·rw [← List.map_take] at hd'
  obtain ⟨i,_,rfl⟩:=List.mem_map.mp hd'
  obtain ⟨x,y,rfl⟩:=hR
  k_call_by "go" 0
  exact hZ _ ⟨_,_,rfl⟩
 refine fun D'=>⟨D',_,_,_,rfl,.here,rfl,?_⟩
 k_call_by "go" 0
 intro pn
 exact ⟨_,.refl,h pn⟩
theorem k_Memory (X:Cx Q) (h:∀ a b,Φ (.ref a) ((b,.zd (held fun _=>none) 0)::(a,.inst 49 [.ref b])::σ)):WC Q (n+2) (.ref (cT 49)) [] σ Φ:=by
 refine F_i49.wk X rfl rfl fun a env E=>?_
 k_call_by "go" 0
 with_reducible refine Stop.ok ?_
 refine e_dct0 S_i49_0 (.inr rfl) fun Ha=>?_
 k_call_by "go" 0
 exact ⟨rfl,h _ _⟩
theorem k_State (X:Cx Q) (h:∀ a:Ma,Φ (.ref a.S) (SC a (fun _=>0) 0 0 0 0 0 0 (fun _=>none) 0 0 0 false σ)):WC Q (n+4) (.ref (cT 51)) [.none] σ Φ:=by
 refine WC.thin (F_i51.wk X rfl rfl fun a env E=>?_)
 k_call_by "go" 0
 intro L1
 k_call_by "go" 0
 refine ⟨⟨by decide,by decide,by decide,by decide⟩,fun R=>?_⟩
 k_call_by "go" 0
 intro L2
 k_call_by "go" 0
 refine ⟨⟨by decide,by decide,by decide,by decide⟩,fun XM=>?_⟩
 k_call_by "go" 0
 refine k_Flags X fun F=>?_
 k_call_by "go" 0
 refine k_Memory X fun M Ha=>?_
 k_call_by "go" 0
 with_reducible refine Stop.ok ?_
 refine e_dct (F_i51.cok X E) S_i51_0 (by kernel_rfl) ?_
 k_call_by "go" 0
 intro D
 k_call_by "go" 0
 refine ⟨rfl,_,?_,h ⟨a,R,F,M,Ha,XM,D⟩⟩
 exact .take (.there (.there (.there (.there (.there (.there (.there (.there .here)))))))) (.take (.there (.there (.there (.there (.there (.there .here)))))) (.take (.there (.there (.there .here))) (.take (.there (.there .here)) (.take (.there .here) (.skip (.skip (.skip (.skip .refl))))))))
theorem k_load (X:Cx Q) {M Ha:Addr} {H:Int→Option B8} {z:Nat} (hz:z≤1000) (h:Φ .none ((M,.inst 49 [.ref Ha])::(Ha,.zd (held (ld9 H)) (z+9))::σ)):
  WM Q (n+4) 49 5 [.ref M,.int 32768,.byt mintB] ((M,.inst 49 [.ref Ha])::(Ha,.zd (held H) z)::σ) Φ:=by
 refine F_m49_5.wm X rfl rfl fun env E=>?_
 k_call_by "go" 0
 refine w_enumB fun Z=>?_
 refine ⟨_,_,it_self .here,for_at (fun i ρ σ'=>(∃ x y,ρ=[some (.ref M),some (.int 32768),some (.byt mintB),x,y])∧σ'=(M,.inst 49 [.ref Ha])::(Ha,.zd (held (ldN H i)) (z+i))::σ) ⟨⟨_,_,rfl⟩,rfl⟩ ?_ ?_⟩
 ·rintro i d ρ σ' Z e ⟨⟨x,y,rfl⟩,rfl⟩ zz
  obtain ⟨o,h1,rfl⟩:=enums_get e
  have hi:i < 9:=(List.getElem?_eq_some_iff.mp h1).1
  have e2:o=.int ((mint.getD i 0).toNat:Int):=by
   exact Option.some.inj (h1.symm.trans (mint_at (fun c=>AV.int (c.toNat:Int)) hi))
  subst e2
  rw [Nat.zero_add]
  k_call_by "go" 0
  refine k_setoctet X (z:=z+i) (by lia) ?_
  k_call_by "go" 0
  exact zz.next ⟨⟨_,_,rfl⟩,rfl⟩
 ·rintro ρ σ' ⟨⟨x,y,rfl⟩,rfl⟩
  exact ⟨_,.refl,h⟩
theorem k_octets (X:Cx Q) {M Ha:Addr} {H:Int→Option B8} {z:Nat} (hv:∀ i:Nat,i < 9→oct H (32768+(i:Int))=mint.getD i 0) (h:Φ (.byt mintB) ((M,.inst 49 [.ref Ha])::(Ha,.zd (held H) z)::σ)):
  WM Q (n+5) 49 6 [.ref M,.int 32768,.int 9] ((M,.inst 49 [.ref Ha])::(Ha,.zd (held H) z)::σ) Φ:=by
 refine F_m49_6.wmS X (ρ0:=[some (.int 9)]) (ds:=[some (.int 32768),some (.ref M)]) rfl rfl rfl (fun as=>match as with
  | [p1,p2]=>(M,.inst 49 [.ref Ha])::(Ha,.zd (held H) z)::(p1,.cel (some (.int 32768)))::(p2,.cel (some (.ref M)))::σ
  | _=>[]) (fun as ha=>?_) (fun env as ha E=>?_)
 ·obtain ⟨p1,p2,rfl⟩:=len2 ha
  exact (Sel.take (.there (.there .here)) (.take (.there (.there .here)) .refl))
 obtain ⟨p1,p2,rfl⟩:=len2 ha
 k_call_by "go" 0
 refine e_cmpr (F_m49_6.cok X E rfl) L_m49_6_0 rfl S_m49_6_0 ?_
 k_call_by "go" 0
 refine w_range ?_
 refine ⟨_,_,it_rng (hi:=9) (by decide),by rw [irange_len];decide,fun cenv=>?_⟩
 refine comp_fm (fun ρ=>∃ x y,ρ=[x,y]) (fun _=>true) (octOf H) (r:=(mint.map fun c=>(c.toNat:Int)).map .int) ⟨_,_,rfl⟩ (fun d' hd' ρ acc Z hR hZ=>?_) ?_ ?_
 ·obtain ⟨i,hi,rfl⟩:=mem_irange hd'
  obtain ⟨x,y,rfl⟩:=hR
  k_call_by "go" 0
  refine k_octet X ?_
  exact hZ _ ⟨_,_,rfl⟩
 ·rw [List.filter_eq_self.mpr fun _ _=>rfl]
  have q:∀ i:Nat,i < 9→octOf H (.int (0+(i:Int)))=.int (((mint.getD i 0).toNat:Nat):Int):=fun i hi=>by
   show AV.int ((oct H (32768+(0+(i:Int)))).toNat:Int)=_
   rw [Int.zero_add,hv i hi]
  refine List.ext_getElem? fun j=>?_
  by_cases hj:j < 9
  ·rw [List.nil_append,irange,List.map_map,List.getElem?_map,List.getElem?_range hj]
   exact (congrArg some (q j hj)).trans (mint_at (fun c=>AV.int (c.toNat:Int)) hj).symm
  ·rw [List.getElem?_eq_none (by rw [List.nil_append,List.length_map,irange_len];lia),List.getElem?_eq_none (by show 9≤j;lia)]
 intro D
 k_call_by "go" 0
 refine w_bytes (.head _) (by decide) (by decide) ?_
 exact ⟨_,.skip (.take .here (.take .here (.skip (.skip .refl)))),h⟩
end
end
section
open Builtin Builtin.ObjectAttr
set_option tactic.hygienic false
section
variable {Q:Bt} {n:Nat} {env:Env} {σ:St} {ρ:Rho}
noncomputable def FrzL (K:Ks) (fl:AFl) (ρ:Rho) (σ:St):Prop:=∃ i D l σ',fl=.next∧ρ[i]?=some (some (.ref D))∧TakeC σ D (.lst l) σ'∧K .next (ρ.set i (some (.lst l))) σ'
theorem WS.frz {s:Stmt} {K:Ks} (h:WS Q n env s ρ σ (FrzL K)):WS Q n env s ρ σ K:=fun A p G r a k=>h A p G r a fun ρ' σ' q x y b z f φ=>by
 obtain ⟨i,D,l,σ₂,rfl,hi,hc,hK⟩:=φ
 obtain ⟨W',x',I',hv⟩:=freeze b.I hc rfl
 have F:=b.F.ext x'
 obtain ⟨m,hm,hs⟩:=F.ns
 have F':FrOk Q env (ρ'.set i (some (.lst l))) ⟨W',q.s⟩:=⟨⟨m,hm,fun j x d h1 h2=>by
  rw [List.getElem?_set] at h2
  by_cases e:i=j
  ·subst e
   have hlt:i < ρ'.length:=(List.getElem?_eq_some_iff.mp hi).1
   rw [if_pos rfl,if_pos hlt] at h2
   cases h2
   obtain ⟨v,hv1,hv2⟩:=hs i x _ h1 hi
   obtain rfl:=v_ref hv2
   exact ⟨_,hv1,hv⟩
  ·rw [if_neg e] at h2
   exact hs j x d h1 h2⟩,F.own,F.F,F.base,by rw [List.length_set];exact F.len⟩
 exact k _ σ₂ ⟨W',q.s⟩ x .next ⟨I',F'⟩ (z.trans x'.wide) f.nx hK
end
noncomputable def lawQ:Str:=nmS (st 124)++".<locals>."++"_law_advance"
@[reducible] noncomputable def tabs (σ:St):St:=(tT 124,.tab lawQ)::(tT 121,.tab compQ)::(tT 120,.tab laidQ)::σ
noncomputable def drT:Nat→T→T
 | 0,t=>t
 | k+1,.cons _ r=>drT k r
 | _+1,t=>t
end
section
open Builtin Builtin.ObjectAttr
set_option tactic.hygienic false
section
variable {Q:Bt} {n:Nat} {σ:St} {Φ:AV→St→Prop}
theorem bv_of {v:Int} (h0:0≤v) (h1:v < 2^64):∃ u:BV,v=(u.toNat:Int):=⟨BitVec.ofInt 64 v,by rw [BitVec.toNat_ofInt];lia⟩
theorem held_of {a b:Int} {e:AV} (a0:0≤a) (a1:a < 8) (b0:0≤b) (b1:b < 2^(64:Int).toNat) (he:e∈[AV.int a,.int b,.int (2^(64:Int).toNat - 1),.int (2^(63:Int).toNat)]):∃ v:BV,e=.int (v.toNat:Int):=by
 have key:∃ v:Int,e=.int v∧0≤v∧v < 2^64:=List.at_mem (P:=fun e=>∃ v:Int,e=.int v∧0≤v∧v < 2^64) (all1 ⟨_,rfl,a0,by lia⟩ (all1 ⟨_,rfl,b0,b1⟩ (all1 ⟨_,rfl,by decide,by decide⟩ (all1 ⟨_,rfl,by decide,by decide⟩ all0)))) he
 obtain ⟨v,rfl,v0,v1⟩:=key
 obtain ⟨u,rfl⟩:=bv_of v0 v1
 exact ⟨u,rfl⟩
noncomputable abbrev lawC (Q:Bt) (n:Nat) (env:Env) (p1 p2 p3:Addr):Cn:=⟨Q,n,env,["script","statements","function","held","begin","frame","maker","_law_advance"],["program","state","pen"],[p1,p2,p3],true,[99,104,103,101,100,121,208,122,51,56,110,206]⟩
inductive HI (pn:Addr) (cells:List Int) (τ:St) (i:Nat) (acc:List AV) (ρ:Rho) (σ:St):Prop
 | mk (vs:List BV) (s g:Int) (x y:Option AV) (hl:vs.length=i) (hp:Pen cells (473 - 3*i) s) (e1:acc=bvs vs) (e2:ρ=[x,y]) (e3:σ=(pn,.lst (penL cells s g))::τ)
theorem law_A (X:Cx Q) {cells0:List Int} (hz:cells0.length≤63)
  (h:∀ env p1 p2 p3 pn cells s g (f:Fn) v0 v1 v2 v3 hd (xs:List Sm),EnvOk env (scS (st 124)) [("program",p1),("state",p2),("pen",p3)]→(∃ c,env.code=.ref c∧CodeHd Q.hB c (tT 124))→env.qual=nmS (st 124)++".<locals>."→f.wf→(∀ x∈xs,x.wf)→xs.length≤2→Pen cells 400 s →
   runS (lawC Q (n+39) env p1 p2 p3) 96 true (drT 4 t124) [some (.lst (cells0.map .int)),some (.lst (xs.map Sm.av)),some f.av,some (.ref hd),none,none,none,none] ((hd,.lst (bvs [v0,v1,v2,v3]))::(pn,.lst (penL cells s g))::(p1,.cel none)::(p2,.cel none)::(p3,.cel (some (.ref pn)))::tabs σ) (retO (thn Φ))):
  WG Q (n+40) 124 [.lst (cells0.map .int)] (tabs σ) Φ:=by
 refine F_t124.wtS X (ρ0:=[some (.lst (cells0.map .int)),none,none,none,none,none,none,none]) (ds:=[none,none,none]) rfl rfl rfl rfl (fun as=>celS as [none,none,none]++tabs σ) (fun _ _=>.refl) fun env as ha E hc hq=>?_
 obtain ⟨p1,p2,p3,rfl⟩:=len3 ha
 refine (?_:runS (lawC Q (n+39) env p1 p2 p3) _ _ _ _ ((p1,.cel none)::(p2,.cel none)::(p3,.cel none)::tabs σ) _)
 k_call_by "go" 0
 refine k_pen X (by lia) fun pn=>?_
 have hp:Pen (cells0.take 40) 1000 0:=⟨by have:=List.length_take_le 40 cells0;lia,Int.le_refl 0,by decide⟩
 generalize cells0.take 40=cells at hp ⊢
 k_call_by "go" 0
 have tail:∀ (xs:List Sm) (s g:Int),(∀ x∈xs,x.wf)→xs.length≤2→Pen cells 600 s→runS (lawC Q (n+39) env p1 p2 p3) 98 true (drT 2 t124) [some (.lst (cells0.map .int)),some (.lst (xs.map Sm.av)),none,none,none,none,none,none] ((pn,.lst (penL cells s g))::(p1,.cel none)::(p2,.cel none)::(p3,.cel (some (.ref pn)))::tabs σ) (retO (thn Φ)):=by
  intro xs s g xw xl hp
  k_call_by "go" 0
  refine k_test X (.inl rfl) (u:=553) hp fun t tw s1 g1 hp=>?_
  k_call_by "go" 0
  refine k_value (m:=2) X (.inl rfl) 1 (n:=n+34) (u:=513) hp fun y yw s2 g2 hp=>?_
  k_call_by "go" 0
  refine k_value (m:=2) X (.inl rfl) 1 (n:=n+34) (u:=473) hp fun z zw s3 g3 hp=>?_
  k_call_by "go" 0
  refine s_cmp (F_t124.cok X E rfl) L_t124_1 rfl (i:=3) S_t124_1 (by kernel_rfl) ?_
  k_call_by "go" 0
  refine w_range ?_
  refine ⟨_,_,it_rng (hi:=4) (by decide),by decide,fun cenv=>?_⟩
  refine comp_n (HI pn cells ((p1,.cel none)::(p2,.cel none)::(p3,.cel (some (.ref pn)))::tabs σ)) ⟨[],_,_,_,_,rfl,hp,rfl,rfl,rfl⟩ (fun i d acc ρ' σ' Z hi hP hZ=>?_) fun acc ρ' σ' hP=>?_
  ·obtain ⟨vs,s,g,x,y,hl,hp,rfl,rfl,rfl⟩:=hP
   have hi4:i < 4:=(List.getElem?_eq_some_iff.mp hi).1
   have hp:=hp.le (show 473 - 3*(i+1)+1+1+1≤473 - 3*i by lia)
   k_call_by "go" 0
   refine k_draw X (by decide) (by decide) hp fun a0 sa0 ga0 a00 a01 hp=>?_
   k_call_by "go" 0
   refine k_draw X (by decide) (by decide) hp fun b0 sb0 gb0 b00 b01 hp=>?_
   k_call_by "go" 0
   refine k_pick X (by show 0 < 4;decide) (by show 4≤1000;decide) hp fun e0 he0 sc0 gc0 hp=>?_
   obtain ⟨v0,rfl⟩:=held_of a00 a01 b00 b01 he0
   exact hZ _ _ _ ⟨vs++[v0],_,_,_,_,by rw [List.length_append,hl];rfl,hp,(List.map_append (f:=fun v:BV=>AV.int (v.toNat:Int)) (l₁:=vs) (l₂:=[v0])).symm,rfl,rfl⟩
  ·obtain ⟨vs,s,g,x,y,hl,hp,rfl,rfl,rfl⟩:=hP
   obtain ⟨v0,v1,v2,v3,rfl⟩:=len4 hl
   intro hd
   exact h env p1 p2 p3 pn cells _ _ ⟨t,_,_⟩ v0 v1 v2 v3 hd xs E hc hq ⟨tw,yw,zw⟩ xw xl (hp.le (by decide))
 refine WS.frz (s_cmp (F_t124.cok X E rfl) L_t124_0 rfl (i:=1) S_t124_0 (by kernel_rfl) ?_)
 k_call_by "go" 0
 refine k_draw X (by decide) (by decide) (u:=999) hp fun d s1 g1 d0 d1 hp=>?_
 rcases (show d=0∨d=1 by lia) with rfl|rfl
 ·k_call_by "go" 0
  refine w_range ?_
  refine ⟨_,_,it_rng (hi:=1) (by decide),by decide,fun cenv=>?_⟩
  k_call_by "go" 0
  refine k_statement X (n:=n+31) (u:=800) (hp.le (by decide)) fun x xw s2 g2 hp=>?_
  refine fun D=>⟨1,D,_,_,rfl,rfl,.here,?_⟩
  exact tail [x] s2 g2 (all1 xw all0) (show 1≤2 by decide) (hp.le (by decide))
 ·k_call_by "go" 0
  refine w_range ?_
  refine ⟨_,_,it_rng (hi:=2) (by decide),by decide,fun cenv=>?_⟩
  k_call_by "go" 0
  refine k_statement X (n:=n+31) (u:=800) (hp.le (by decide)) fun x xw s2 g2 hp=>?_
  k_call_by "go" 0
  refine k_statement X (n:=n+31) (u:=605) hp fun y yw s3 g3 hp=>?_
  refine fun D=>⟨1,D,_,_,rfl,rfl,.here,?_⟩
  exact tail [x,y] s3 g3 (all1 xw (all1 yw all0)) (show 2≤2 by decide) (hp.le (by decide))
end
end
section
set_option tactic.hygienic false
/-! the machine's run of laid rows -/
structure Ms where
 R:Int→BV
 cf:Int
 zf:Int
 sf:Int
 of:Int
 H:Int→Option B8
@[reducible] noncomputable def RunS (m:Int→Option (Row × Int)) (k:Nat) (s:Ms) (rp:BV) (Q:(Int→BV)→(Int→Option B8)→Prop):Prop:=Run m k s.R s.cf s.zf s.sf s.of s.H rp Q
theorem Run.mono {m:Int→Option (Row × Int)} {Q:(Int→BV)→(Int→Option B8)→Prop}:∀ {k k':Nat} {R:Int→BV} {cf zf sf of:Int} {H:Int→Option B8} {rp:BV},k≤k'→Run m k R cf zf sf of H rp Q→Run m k' R cf zf sf of H rp Q
 | 0,_=>fun _ h=>h.elim
 | _+1,0=>fun q _=>absurd q (Nat.not_succ_le_zero _)
 | _+1,_+1=>fun q h=>h.rec fun r wd h1 ok h2=>⟨r,wd,h1,ok,h2.mono fun _ _ _ _ _ _ _ _ x=>⟨x.1,fun e=>Run.mono (Nat.le_of_succ_le_succ q) (x.2 e)⟩⟩
structure Laid (m:Int→Option (Row × Int)) (lrs:List LR) (P:Nat→BV):Prop where
 op:∀ i r,lrs[i]?=some (.op r)→∃ wd,m ((P i).toNat:Int)=some (r,wd)∧BitVec.ofInt 64 (((P i).toNat:Int)+wd)=P (i+1)
 lab:∀ i k,lrs[i]?=some (.lab k)→P (i+1)=P i
 call:∀ i j k,lrs[i]?=some (.call k)→lrs[j]?=some (.lab k)→∃ d wd,m ((P i).toNat:Int)=some (.call d,wd)∧BitVec.ofInt 64 (((P i).toNat:Int)+wd)=P (i+1)∧BitVec.ofInt 64 (((P (i+1)).toNat:Int)+d)=P j
 jmp:∀ i j k,lrs[i]?=some (.jmp k)→lrs[j]?=some (.lab k)→∃ d wd,m ((P i).toNat:Int)=some (.jmp d,wd)∧BitVec.ofInt 64 (((P i).toNat:Int)+wd)=P (i+1)∧BitVec.ofInt 64 (((P (i+1)).toNat:Int)+d)=P j
 jcc:∀ i j cn k,lrs[i]?=some (.jcc cn k)→lrs[j]?=some (.lab k)→∃ d wd,m ((P i).toNat:Int)=some (.jcc ("j"++cn.nm) cn.nm d,wd)∧BitVec.ofInt 64 (((P i).toNat:Int)+wd)=P (i+1)∧BitVec.ofInt 64 (((P (i+1)).toNat:Int)+d)=P j
noncomputable def Blk (m:Int→Option (Row × Int)) (P:Nat→BV) (i j n:Nat) (s:Ms) (Tr:Ms→Prop):Prop:=∀ k Q,(∀ s',Tr s'→RunS m k s' (P j) Q)→RunS m (k+n) s (P i) Q
section
variable {m:Int→Option (Row × Int)} {lrs:List LR} {P:Nat→BV} {i j l n n':Nat} {s:Ms} {Tr Tr':Ms→Prop}
theorem Blk.refl (h:Tr s):Blk m P i i 0 s Tr:=fun k Q q=>q s h
theorem Blk.trans (a:Blk m P i j n s Tr) (b:∀ s',Tr s'→Blk m P j l n' s' Tr'):Blk m P i l (n+n') s Tr':=fun k Q h=>by
 have:=a (k+n') Q fun s' t=>b s' t k Q h
 rwa [show k+n'+n=k+(n+n') by lia] at this
theorem Blk.le (a:Blk m P i j n s Tr) (h:n≤n'):Blk m P i j n' s Tr:=fun k Q q=>Run.mono (by lia) (a k Q q)
theorem Blk.mono (a:Blk m P i j n s Tr) (h:∀ s',Tr s'→Tr' s'):Blk m P i j n s Tr':=fun k Q q=>a k Q fun s' t=>q s' (h s' t)
theorem Blk.to (a:Blk m P i j n s Tr) (h:P l=P j):Blk m P i l n s Tr:=fun k Q q=>a k Q fun s' t=>h▸q s' t
theorem blk_op (L:Laid m lrs P) {r:Row} (hi:lrs[i]?=some (.op r)) (ok:r.ok) (h:r.does s.R s.cf s.zf s.sf s.of s.H (P (i+1)) fun R cf zf sf of H rp hl=>hl=false∧rp=P (i+1)∧Tr ⟨R,cf,zf,sf,of,H⟩):Blk m P i (i+1) 1 s Tr:=fun k Q q=>by
 obtain ⟨wd,h1,h2⟩:=L.op i r hi
 refine ⟨r,wd,h1,ok,?_⟩
 rw [h2]
 exact h.mono fun R cf zf sf of H rp hl ⟨e1,e2,t⟩=>⟨fun e=>absurd (e1.symm.trans e) Bool.false_ne_true,fun _=>e2▸q _ t⟩
theorem blk_lab (L:Laid m lrs P) {k:Int} (hi:lrs[i]?=some (.lab k)) (h:Tr s):Blk m P i (i+1) 0 s Tr:=(Blk.refl h).to (L.lab i k hi)
theorem blk_jmp (L:Laid m lrs P) {k:Int} (hi:lrs[i]?=some (.jmp k)) (hj:lrs[j]?=some (.lab k)) (h:Tr s):Blk m P i j 1 s Tr:=fun k Q q=>by
 obtain ⟨d,wd,h1,h2,h3⟩:=L.jmp i j _ hi hj
 refine ⟨_,wd,h1,trivial,?_⟩
 rw [h2]
 show (_→_)∧(_→_)
 refine ⟨fun e=>(nomatch e),fun _=>?_⟩
 rw [h3]
 exact q s h
theorem jcc_ok (cn:Cd) (d:Int):(Row.jcc ("j"++cn.nm) cn.nm d).ok:=by
 cases cn<;>exact ⟨⟨by decide +kernel,by decide +kernel,by decide +kernel,by decide +kernel,by decide +kernel,by decide +kernel,by decide +kernel,by decide +kernel,by decide +kernel,by decide +kernel,by decide +kernel,by decide +kernel⟩,by decide +kernel⟩
theorem blk_jcc (L:Laid m lrs P) {cn:Cd} {k:Int} {b:Bool} (hi:lrs[i]?=some (.jcc cn k)) (hj:lrs[j]?=some (.lab k)) (hb:condF cn.nm s.cf s.zf s.sf s.of=b) (h1:b=true→Blk m P j l n s Tr) (h2:b=false→Blk m P (i+1) l n s Tr):Blk m P i l (1+n) s Tr:=fun k Q q=>by
 obtain ⟨d,wd,e1,e2,e3⟩:=L.jcc i j _ _ hi hj
 rw [show k+(1+n)=k+n+1 by lia]
 refine ⟨_,wd,e1,jcc_ok cn d,?_⟩
 rw [e2]
 show (_→_)∧(_→_)
 refine ⟨fun e=>(nomatch e),fun _=>?_⟩
 rw [hb,e3]
 cases b with
 | true=>exact h1 rfl k Q q
 | false=>exact h2 rfl k Q q
end
noncomputable def Seg (lrs:List LR) (i:Nat):List LR→Prop
 | []=>True
 | x::l=>lrs[i]?=some x∧Seg lrs (i+1) l
theorem Seg.app {lrs:List LR}:∀ {a b:List LR} {i:Nat},Seg lrs i (a++b)→Seg lrs i a∧Seg lrs (i+a.length) b
 | [],b,i,h=>⟨trivial,h⟩
 | x::a,b,i,h=>by
  obtain ⟨h1,h2⟩:=Seg.app (a:=a) (i:=i+1) h.2
  refine ⟨⟨h.1,h1⟩,?_⟩
  rw [List.length_cons,show i+(a.length+1)=i+1+a.length by lia]
  exact h2
theorem Seg.all (pre:List LR):∀ l:List LR,Seg (pre++l) pre.length l
 | []=>trivial
 | x::l=>⟨by simp,by
  have:=Seg.all (pre++[x]) l
  rw [List.append_assoc,List.length_append] at this
  exact this⟩
structure Kp (s s':Ms):Prop where
 r3:s'.R 3=s.R 3
 r4:s'.R 4=s.R 4
 r5:s'.R 5=s.R 5
 ag:Ag s.H s'.H (s.R 4).toNat
theorem Kp.trans {a b c:Ms} (x:Kp a b) (y:Kp b c):Kp a c:=⟨y.r3.trans x.r3,y.r4.trans x.r4,y.r5.trans x.r5,x.ag.trans (by have:=y.ag;rwa [x.r4] at this)⟩
noncomputable def VarsOk (hs:List Int) (nv:Nat) (env:Nat→BV) (s:Ms):Prop:=∀ k < nv,((s.R 4).toNat:Int)≤hs.getD k 0+(s.R 5).toNat∧hs.getD k 0+(s.R 5).toNat+8≤2^39∧rd s.H (hs.getD k 0+(s.R 5).toNat)=env k
theorem VarsOk.kp {hs:List Int} {nv:Nat} {env:Nat→BV} {s s':Ms} (v:VarsOk hs nv env s) (k:Kp s s'):VarsOk hs nv env s':=fun j hj=>by
 obtain ⟨a,b,c⟩:=v j hj
 rw [k.r4,k.r5,k.ag.rd a b]
 exact ⟨a,b,c⟩
noncomputable def CallOk (m:Int→Option (Row × Int)) (lrs:List LR) (P:Nat→BV) (tidy:Bool) (fn:BV→BV→BV) (cs rm:Nat):Prop:=∀ i,lrs[i]?=some (.call 0)→∀ s:Ms,rm≤(s.R 4).toNat→(s.R 4).toNat < 2^38 →
 Blk m P i (i+1) cs s fun s'=>s'.R 0=fn (rd s.H ((s.R 4).toNat+8)) (rd s.H (s.R 4).toNat)∧s'.R 3=s.R 3∧s'.R 5=s.R 5∧s'.R 4=s.R 4+(if tidy then 16 else 0)∧Ag s.H s'.H (s.R 4).toNat
noncomputable def SB (cs:Nat):Nat→Nat
 | 0=>1
 | d+1=>2*SB cs d+cs+6
theorem SB_ge (cs:Nat):∀ d,1≤SB cs d
 | 0=>Nat.le_refl _
 | d+1=>by show 1≤2*SB cs d+cs+6;lia
noncomputable def EmR (m:Int→Option (Row × Int)) (lrs:List LR) (P:Nat→BV) (hs:List Int) (nv:Nat) (env:Nat→BV) (fn:BV→BV→BV) (rm cs:Nat) (t:Tr) (l:List LR) (d:Nat):Prop:=∀ i,Seg lrs i l→∀ s:Ms,VarsOk hs nv env s→rm+16*d≤(s.R 4).toNat→(s.R 4).toNat < 2^38 →
 Blk m P i (i+l.length) (SB cs d) s fun s'=>s'.R 0=told fn env t∧Kp s s'
theorem upd_eq {β:Type} {f:Int→β} {k:Int} {v:β}:upd f k v k=v:=by unfold upd;rw [if_pos rfl]
theorem ofInt_addR (x:Int) (u:BV):BitVec.ofInt 64 (x+(u.toNat:Int))=BitVec.ofInt 64 x+u:=by rw [BitVec.ofInt_add,ofInt_self]
theorem sub8 {u:BV} (h:8≤u.toNat):(u - 8).toNat=u.toNat - 8:=BitVec.toNat_sub_of_le (BitVec.le_def.mpr h)
theorem sub8a (u:BV):u - 8+8=u:=BitVec.sub_add_cancel u 8
theorem sub16 (u:BV):u - 8 - 8+16=u:=by rw [show (16:BV)=8+8 from rfl,← BitVec.add_assoc,sub8a,sub8a]
theorem bop_add (u v:BV):bop "add" u v=u+v:=by unfold bop;rw [if_pos rfl]
theorem bop_sub (u v:BV):bop "sub" u v=u - v:=by unfold bop;rw [if_neg (by decide),if_pos rfl]
theorem bop_and (u v:BV):bop "and" u v=u &&& v:=by unfold bop;rw [if_neg (by decide),if_neg (by decide),if_pos rfl]
theorem bop_or (u v:BV):bop "or" u v=u ||| v:=by unfold bop;rw [if_neg (by decide),if_neg (by decide),if_neg (by decide),if_pos rfl]
theorem bop_xor (u v:BV):bop "xor" u v=u ^^^ v:=by unfold bop;rw [if_neg (by decide),if_neg (by decide),if_neg (by decide),if_neg (by decide)]
section
variable {m:Int→Option (Row × Int)} {lrs:List LR} {P:Nat→BV} {i:Nat} {s:Ms} {Tr:Ms→Prop}
theorem ok0:rok 0:=⟨by decide,by decide⟩
theorem ok1:rok 1:=⟨by decide,by decide⟩
theorem mx (a b:BV):(if condF "l" (cfI a b) (zfI (a - b)) (sgn (a - b)) (ofI a b)=true then b else a)=O2.op .max a b:=by
 have:=cond_hold .l a b
 rw [show Cd.l.nm="l" from rfl] at this
 rw [this]
 show (if decide (a.toInt < b.toInt)=true then b else a)=if b.toInt≤a.toInt then a else b
 by_cases q:a.toInt < b.toInt
 ·rw [if_pos (decide_eq_true q),if_neg (by lia)]
 ·rw [if_neg (by simp only [decide_eq_true_eq];exact q),if_pos (by lia)]
theorem kp_rax (s:Ms) (x:BV) (cf zf sf of:Int):Kp s ⟨upd s.R 0 x,cf,zf,sf,of,s.H⟩:=⟨rfl,rfl,rfl,Ag.refl _ _⟩
theorem op_rax (L:Laid m lrs P) {r:Row} (hi:lrs[i]?=some (.op r)) (ok:r.ok) {x y:BV} (e:x=y) (h:∀ Q:(Int→BV)→Int→Int→Int→Int→(Int→Option B8)→BV→Bool→Prop,(∀ cf zf sf of,Q (upd s.R 0 x) cf zf sf of s.H (P (i+1)) false)→r.does s.R s.cf s.zf s.sf s.of s.H (P (i+1)) Q):
  Blk m P i (i+1) 1 s fun s'=>s'.R 0=y∧Kp s s':=
 blk_op L hi ok (h _ fun cf zf sf of=>⟨rfl,rfl,(show (upd s.R 0 x) 0=y from upd_eq.trans e),kp_rax s x cf zf sf of⟩)
theorem cmp_run (L:Laid m lrs P) {p:Op} (okp:p.ok) (h1:lrs[i]?=some (.op (.cmp 0 p))) (h2:lrs[i+1]?=some (.op (.cmov 0 p))) {v:BV} (hv:rdO s.R s.H p=v):Blk m P i (i+1+1) 2 s fun s'=>s'.R 0=O2.op .max (s.R 0) v∧Kp s s':=by
 subst hv
 refine ((blk_op (Tr:=fun s'=>s'=⟨s.R,cfI (s.R 0) (rdO s.R s.H p),zfI (s.R 0 - rdO s.R s.H p),sgn (s.R 0 - rdO s.R s.H p),ofI (s.R 0) (rdO s.R s.H p),s.H⟩) L h1 ⟨ok0,okp⟩ ⟨rfl,rfl,rfl⟩).trans (n':=1) (l:=i+1+1) fun s' e=>?_).le (show 1+1≤2 by lia)
 subst e
 refine (op_rax (s:=⟨s.R,cfI (s.R 0) (rdO s.R s.H p),zfI (s.R 0 - rdO s.R s.H p),sgn (s.R 0 - rdO s.R s.H p),ofI (s.R 0) (rdO s.R s.H p),s.H⟩) L h2 ⟨ok0,okp⟩ (mx (s.R 0) (rdO s.R s.H p)) fun Q q=>q _ _ _ _).mono fun s' ⟨e,k⟩=>⟨e,k.r3,k.r4,k.r5,k.ag⟩
theorem dd_run (L:Laid m lrs P) {o:O2} {p:Op} {ld:List LR} (h:Dd o p ld) (hp:p=.reg 1∨(∃ v,p=.imm v)∨∃ far,p=.mem 5 far) (sg:Seg lrs i ld) {u v:BV} (h0:s.R 0=u) (hv:rdO s.R s.H p=v):
  Blk m P i (i+ld.length) 3 s fun s'=>s'.R 0=o.op u v∧Kp s s':=by
 have okp:p.ok:=by
  rcases hp with rfl|⟨v,rfl⟩|⟨far,rfl⟩
  ·exact ok1
  ·trivial
  ·exact ⟨by decide,by decide⟩
 subst h0 hv
 cases h with
 | maxI v=>
  obtain ⟨s1,s2,s3,_⟩:=sg
  refine (((blk_op (Tr:=fun s'=>s'={ s with R:=upd s.R 1 (BitVec.ofInt 64 v) }) L s1 ⟨ok1,trivial⟩ ⟨rfl,rfl,rfl⟩).trans fun s' e=>?_)).le (show 1+2≤3 by lia)
  subst e
  refine (cmp_run (p:=.reg 1) L ok1 s2 s3 (v:=BitVec.ofInt 64 v) (show upd s.R 1 (BitVec.ofInt 64 v) 1=_ from upd_eq)).mono fun s' ⟨e,k⟩=>⟨e,k.r3,k.r4,k.r5,k.ag⟩
 | maxR=>
  obtain ⟨s2,s3,_⟩:=sg
  exact (cmp_run L okp s2 s3 rfl).le (by lia)
 | maxM b far=>
  obtain ⟨s2,s3,_⟩:=sg
  exact (cmp_run L okp s2 s3 rfl).le (by lia)
 | leaX=>
  refine (op_rax L sg.1 ⟨ok0,ok0,ok1⟩ ?_ fun Q q=>q _ _ _ _).le (by lia)
  rw [Int.zero_add,Int.mul_one,ofInt_add'];rfl
 | lea v=>
  refine (op_rax L sg.1 ⟨ok0,ok0⟩ ?_ fun Q q=>q _ _ _ _).le (by lia)
  rw [ofInt_addR,BitVec.add_comm];rfl
 | mul3 v=>exact (op_rax L sg.1 ⟨ok0,ok0⟩ (BitVec.mul_comm _ _) fun Q q=>q).le (by lia)
 | mul2 o=>exact (op_rax L sg.1 ⟨ok0,okp⟩ rfl fun Q q=>q).le (by lia)
 | add o=>exact (op_rax L sg.1 ⟨by decide +kernel,ok0,okp⟩ (bop_add _ _) fun Q q=>q).le (by lia)
 | sub o=>exact (op_rax L sg.1 ⟨by decide +kernel,ok0,okp⟩ (bop_sub _ _) fun Q q=>q).le (by lia)
 | and o=>exact (op_rax L sg.1 ⟨by decide +kernel,ok0,okp⟩ (bop_and _ _) fun Q q=>q).le (by lia)
 | or o=>exact (op_rax L sg.1 ⟨by decide +kernel,ok0,okp⟩ (bop_or _ _) fun Q q=>q).le (by lia)
 | xor o=>exact (op_rax L sg.1 ⟨by decide +kernel,ok0,okp⟩ (bop_xor _ _) fun Q q=>q).le (by lia)
end
section
variable {m:Int→Option (Row × Int)} {lrs:List LR} {P:Nat→BV} {hs:List Int} {nv:Nat} {env:Nat→BV} {fn:BV→BV→BV} {rm cs:Nat} {tidy:Bool}
@[reducible] noncomputable def pushed (s:Ms) (k:Int):Ms:={ s with R:=upd s.R 4 (s.R 4 - 8),H:=wr s.H ((s.R 4 - 8).toNat:Int) (s.R k) }
theorem blk_push (L:Laid m lrs P) {i:Nat} {s:Ms} {k:Int} (hi:lrs[i]?=some (.op (.push k))) (ok:rok k):Blk m P i (i+1) 1 s fun s'=>s'=pushed s k:=blk_op L hi ok ⟨rfl,rfl,rfl⟩
theorem pushed_ag {s:Ms} {k:Int} (h:8≤(s.R 4).toNat) (h1:(s.R 4).toNat < 2^38):Ag s.H (pushed s k).H (s.R 4).toNat:=by
 have e:=sub8 h
 exact Ag.wr (by lia) (by lia) (by lia)
theorem pushed_r4 {s:Ms} {k:Int}:(pushed s k).R 4=s.R 4 - 8:=show upd s.R 4 (s.R 4 - 8) 4=_ from upd_eq
theorem pushed_r3 {s:Ms} {k:Int}:(pushed s k).R 3=s.R 3:=rfl
theorem pushed_r5 {s:Ms} {k:Int}:(pushed s k).R 5=s.R 5:=rfl
theorem pushed_rd {s:Ms} {k:Int} (h:8≤(s.R 4).toNat) (h1:(s.R 4).toNat < 2^38):rd (pushed s k).H ((s.R 4 - 8).toNat:Int)=s.R k:=by
 have e:=sub8 h
 exact rd_wr (by lia) (by lia)
theorem VarsOk.push {s:Ms} {k:Int} (v:VarsOk hs nv env s) (h:8≤(s.R 4).toNat) (h1:(s.R 4).toNat < 2^38):VarsOk hs nv env (pushed s k):=fun j hj=>by
 obtain ⟨a,b,c⟩:=v j hj
 rw [pushed_r4,pushed_r5,(pushed_ag h h1).rd a b,sub8 h]
 exact ⟨by lia,b,c⟩
theorem bo_core (L:Laid m lrs P) {a b:Tr} {la lb:List LR} {d:Nat} (ia:EmR m lrs P hs nv env fn rm cs a la d) (ib:EmR m lrs P hs nv env fn rm cs b lb d) {x:Row} (hx:x=.movR 1 (.reg 0)∨x=.xchg 1 0) {i:Nat}
  (sg:Seg lrs i (la++[LR.op (.push 0)]++lb++[LR.op x,LR.op (.pop 0)])) {s:Ms} (v:VarsOk hs nv env s) (hr:rm+16*d+16≤(s.R 4).toNat) (hR:(s.R 4).toNat < 2^38):
  Blk m P i (i+(la++[LR.op (.push 0)]++lb++[LR.op x,LR.op (.pop 0)]).length) (2*SB cs d+3) s fun s'=>s'.R 0=told fn env a∧s'.R 1=told fn env b∧Kp s s':=by
 obtain ⟨sg,s4⟩:=sg.app
 obtain ⟨sg,s3⟩:=sg.app
 obtain ⟨s1,s2⟩:=sg.app
 have ee:i+(la++[LR.op (.push 0)]++lb++[LR.op x,.op (.pop 0)]).length=i+la.length+1+lb.length+1+1:=by simp only [List.length_append,List.length_cons,List.length_nil];lia
 rw [ee]
 have e3:i+(la++[LR.op (.push 0)]).length=i+la.length+1:=by simp only [List.length_append,List.length_cons,List.length_nil];lia
 have e4:i+(la++[LR.op (.push 0)]++lb).length=i+la.length+1+lb.length:=by simp only [List.length_append,List.length_cons,List.length_nil];lia
 rw [e3] at s3
 rw [e4] at s4
 refine Blk.le (n:=SB cs d+(1+(SB cs d+(1+1)))) ?_ (by lia)
 refine (ia i s1 s v (by lia) hR).trans fun sa ⟨e1,k1⟩=>?_
 have h8:8≤(sa.R 4).toNat:=by rw [k1.r4];lia
 have h38:(sa.R 4).toNat < 2^38:=by rw [k1.r4];exact hR
 refine (blk_push L s2.1 ok0).trans fun sb eb=>?_
 subst eb
 have e8:((pushed sa 0).R 4).toNat=(s.R 4).toNat - 8:=by rw [pushed_r4,sub8 h8,k1.r4]
 refine (ib _ s3 _ ((v.kp k1).push h8 h38) (by rw [e8];lia) (by rw [e8];lia)).trans fun sc ⟨e2,k2⟩=>?_
 refine Blk.trans (j:=i+la.length+1+lb.length+1) (Tr:=fun s'=>s'.R 1=sc.R 0∧s'.R 3=sc.R 3∧s'.R 4=sc.R 4∧s'.R 5=sc.R 5∧s'.H=sc.H) ?_ fun sd ⟨d1,d3,d4,d5,dh⟩=>?_
 ·rcases hx with rfl|rfl
  ·exact blk_op L s4.1 ⟨ok1,ok0⟩ ⟨rfl,rfl,show upd sc.R 1 (sc.R 0) 1=_ from upd_eq,rfl,rfl,rfl,rfl⟩
  ·exact blk_op L s4.1 ⟨ok1,ok0⟩ ⟨rfl,rfl,rfl,rfl,rfl,rfl,rfl⟩
 ·refine blk_op L s4.2.1 ok0 ⟨rfl,rfl,?_,?_,?_,?_,?_,?_⟩
  ·show rd sd.H ((sd.R 4).toNat:Int)=_
   rw [d4,dh,k2.r4,k2.ag.rd (Int.le_refl _) (by rw [e8];lia),pushed_r4,pushed_rd h8 h38,e1]
  ·show sd.R 1=_
   rw [d1,e2]
  ·show sd.R 3=_
   rw [d3,k2.r3,pushed_r3,k1.r3]
  ·show sd.R 4+8=_
   rw [d4,k2.r4,pushed_r4,sub8a,k1.r4]
  ·show sd.R 5=_
   rw [d5,k2.r5,pushed_r5,k1.r5]
  ·show Ag s.H sd.H _
   rw [dh]
   have a1:=k1.ag
   have a2:=pushed_ag (k:=0) h8 h38
   have a3:=k2.ag
   rw [k1.r4] at a2
   rw [e8] at a3
   exact (a1.trans a2).trans (a3.le (by lia))
theorem em_run (L:Laid m lrs P) (hcall:nv=4→CallOk m lrs P tidy fn cs rm) {t:Tr} {l:List LR} (e:Em hs tidy t l):∀ d,t.wf nv d→EmR m lrs P hs nv env fn rm cs t l d:=by
 induction e with
 | num v=>exact fun d _ i sg s v hr hR=>(op_rax L sg.1 ⟨ok0,trivial⟩ rfl fun Q q=>q _ _ _ _).le (SB_ge cs d)
 | var k=>
  intro d tw i sg s v hr hR
  have hk:k < nv:=by cases d<;>exact tw
  obtain ⟨a,b,c⟩:=v k hk
  refine (op_rax L sg.1 ⟨ok0,⟨by decide,by decide⟩⟩ ?_ fun Q q=>q _ _ _ _).le (SB_ge cs d)
  show rd s.H (pl (hs.getD k 0+(s.R 5).toNat))=env k
  rw [pl_of (by lia) (by lia),c]
 | neg h ih=>
  intro d tw i sg s v hr hR
  cases d with
  | zero=>exact tw.elim
  | succ d=>
  obtain ⟨s1,s2⟩:=sg.app
  have eb:SB cs (d+1)=2*SB cs d+cs+6:=rfl
  rw [List.length_append,← Nat.add_assoc]
  refine ((ih d tw i s1 s v (by lia) hR).trans fun s' ⟨e,k⟩=>(op_rax L s2.1 ok0 (y:=told fn env (.neg _)) ?_ fun Q q=>q).mono fun s'' ⟨e',k'⟩=>⟨e',k.trans k'⟩).le (show _+1≤_ by lia)
  show 0 - s'.R 0=0 - told fn env _
  rw [e]
 | @call a b la lb ha hb iha ihb=>
  intro d tw i sg s v hr hR
  cases d with
  | zero=>exact tw.elim
  | succ d=>
  obtain ⟨h4,ta,tb⟩:=tw
  have hc:=hcall h4
  have eb:SB cs (d+1)=2*SB cs d+cs+6:=rfl
  obtain ⟨sg,s6⟩:=sg.app
  obtain ⟨sg,s5⟩:=sg.app
  obtain ⟨sg,s4⟩:=sg.app
  obtain ⟨sg,s3⟩:=sg.app
  obtain ⟨s1,s2⟩:=sg.app
  simp only [List.length_append,List.length_cons,List.length_nil,Nat.zero_add,← Nat.add_assoc] at s3 s4 s5 s6 ⊢
  refine Blk.le (n:=SB cs d+(1+(SB cs d+(1+(cs+1))))) ?_ (by lia)
  refine (iha d ta i s1 s v (by lia) hR).trans fun sa ⟨e1,k1⟩=>?_
  have h8:8≤(sa.R 4).toNat:=by rw [k1.r4];lia
  have h38:(sa.R 4).toNat < 2^38:=by rw [k1.r4];exact hR
  refine (blk_push L s2.1 ok0).trans fun sb eb=>?_
  subst eb
  have e8:((pushed sa 0).R 4).toNat=(s.R 4).toNat - 8:=by rw [pushed_r4,sub8 h8,k1.r4]
  refine (ihb d tb _ s3 _ ((v.kp k1).push h8 h38) (by rw [e8];lia) (by rw [e8];lia)).trans fun sc ⟨e2,k2⟩=>?_
  have g4:(sc.R 4).toNat=(s.R 4).toNat - 8:=by rw [k2.r4,e8]
  have g8:8≤(sc.R 4).toNat:=by lia
  have g38:(sc.R 4).toNat < 2^38:=by lia
  refine (blk_push L s4.1 ok0).trans fun sd ed=>?_
  subst ed
  have g16:((pushed sc 0).R 4).toNat=(s.R 4).toNat - 16:=by rw [pushed_r4,sub8 g8,g4];lia
  refine (hc _ s5.1 (pushed sc 0) (by lia) (by lia)).trans fun se ⟨f0,f3,f5,f4,fa⟩=>?_
  have a1:=k1.ag
  have a2:=pushed_ag (k:=0) h8 h38
  have a3:=k2.ag
  have a4:=pushed_ag (k:=0) g8 g38
  rw [k1.r4] at a2
  rw [e8] at a3
  rw [g4] at a4
  rw [g16] at fa
  have ag:Ag s.H se.H (s.R 4).toNat:=(a1.trans a2).trans (((a3.trans a4).le (by lia)).trans (fa.le (by lia)))
  have x2:rd (pushed sc 0).H ((pushed sc 0).R 4).toNat=told fn env b:=by rw [pushed_r4,pushed_rd g8 g38,e2]
  have x1:rd (pushed sc 0).H (((pushed sc 0).R 4).toNat+8)=told fn env a:=by
   have q:(((pushed sc 0).R 4).toNat:Int)+8=((pushed sa 0).R 4).toNat:=by lia
   rw [q,a4.rd (by lia) (by lia),a3.rd (by lia) (by lia),pushed_r4,pushed_rd h8 h38,e1]
  have pr:(pushed sc 0).R 4=s.R 4 - 8 - 8:=by rw [pushed_r4,k2.r4,pushed_r4,k1.r4]
  have z4:(tidy=true→se.R 4=s.R 4)∧(tidy=false→se.R 4+16=s.R 4):=⟨fun q=>by rw [f4,q,if_pos rfl,pr,sub16],fun q=>by rw [f4,q,if_neg Bool.false_ne_true,pr];exact (congrArg (·+(16:BV)) (BitVec.add_zero (s.R 4 - 8 - 8))).trans (sub16 _)⟩
  have z3:se.R 3=s.R 3:=by rw [f3,pushed_r3,k2.r3,pushed_r3,k1.r3]
  have z5:se.R 5=s.R 5:=by rw [f5,pushed_r5,k2.r5,pushed_r5,k1.r5]
  have z0:se.R 0=told fn env (.call a b):=by rw [f0,x1,x2];rfl
  cases tidy with
  | true=>
   have z4:=z4.1 rfl
   exact (Blk.refl (Tr:=fun s'=>s'.R 0=told fn env (.call a b)∧Kp s s') ⟨z0,z3,z4,z5,ag⟩).le (by lia)
  | false=>
   have z4:=z4.2 rfl
   refine blk_op L s6.1 ⟨by decide +kernel,⟨by decide,by decide⟩,trivial⟩ fun _ _ _ _=>⟨rfl,rfl,z0,z3,show upd se.R 4 (bop "add" (se.R 4) (BitVec.ofInt 64 16)) 4=_ from upd_eq.trans ((bop_add _ _).trans z4),z5,ag⟩
 | @nearN o a v la ld ha hd iha=>
  intro d tw i sg s vo hr hR
  cases d with
  | zero=>exact tw.elim
  | succ d=>
  obtain ⟨ta,tb⟩:=tw
  obtain ⟨s1,s2⟩:=sg.app
  have eb:SB cs (d+1)=2*SB cs d+cs+6:=rfl
  rw [List.length_append,← Nat.add_assoc]
  refine ((iha d ta i s1 s vo (by lia) hR).trans fun s' ⟨e,k⟩=>(dd_run L hd (.inr (.inl ⟨v,rfl⟩)) s2 e (v:=BitVec.ofInt 64 v) rfl).mono fun s'' ⟨e',k'⟩=>⟨e',k.trans k'⟩).le (show _+3≤_ by lia)
 | @nearV o a x la ld ha hd iha=>
  intro d tw i sg s vo hr hR
  cases d with
  | zero=>exact tw.elim
  | succ d=>
  obtain ⟨ta,tb⟩:=tw
  obtain ⟨s1,s2⟩:=sg.app
  have eb:SB cs (d+1)=2*SB cs d+cs+6:=rfl
  rw [List.length_append,← Nat.add_assoc]
  have hk:x < nv:=by cases d<;>exact tb
  refine ((iha d ta i s1 s vo (by lia) hR).trans fun s' ⟨e,k⟩=>(dd_run L hd (.inr (.inr ⟨_,rfl⟩)) s2 e (v:=env x) ?_).mono fun s'' ⟨e',k'⟩=>⟨e',k.trans k'⟩).le (show _+3≤_ by lia)
  obtain ⟨p,q,r⟩:=(vo.kp k) x hk
  show rd s'.H (pl (hs.getD x 0+(s'.R 5).toNat))=env x
  rw [pl_of (by lia) (by lia),r]
 | @far o a b la lb ld x ha hb hx hd iha ihb=>
  intro d tw i sg s vo hr hR
  cases d with
  | zero=>exact tw.elim
  | succ d=>
  obtain ⟨ta,tb⟩:=tw
  obtain ⟨s1,s2⟩:=sg.app
  have eb:SB cs (d+1)=2*SB cs d+cs+6:=rfl
  rw [List.length_append,← Nat.add_assoc]
  refine ((bo_core L (iha d ta) (ihb d tb) hx s1 vo (by lia) hR).trans fun s' ⟨e1,e2,k⟩=>(dd_run L hd (.inl rfl) s2 e1 (v:=told fn env b) e2).mono fun s'' ⟨e',k'⟩=>⟨e',k.trans k'⟩).le (show _+3≤_ by lia)
theorem as_run (L:Laid m lrs P) {t:Ts} {Qy Qn:List LR→Prop} {mark:Int} {l:List LR} (h:As hs tidy t Qy Qn mark l) {d:Nat} (ra:∀ la,Em hs tidy t.a la→EmR m lrs P hs nv env fn rm cs t.a la d) (rb:∀ lb,Em hs tidy t.b lb→EmR m lrs P hs nv env fn rm cs t.b lb d)
  {i:Nat} (sg:Seg lrs i l) {s:Ms} (v:VarsOk hs nv env s) (hr:rm+16*d+16≤(s.R 4).toNat) (hR:(s.R 4).toNat < 2^38) {n:Nat} {Tr:Ms→Prop}
  (ry:∀ ly,Qy ly→∀ j,Seg lrs j ly→∀ s',Kp s s'→t.c.hold (told fn env t.a) (told fn env t.b)=true→Blk m P j (j+ly.length) n s' Tr)
  (rn:∀ ln,Qn ln→∀ j,Seg lrs j ln→∀ s',Kp s s'→t.c.hold (told fn env t.a) (told fn env t.b)=false→Blk m P j (j+ln.length) n s' Tr):Blk m P i (i+l.length) (2*SB cs d+6+n) s Tr:=by
 obtain ⟨lb,ly,ln,⟨la,lc,x,ea,ec,hx,rfl⟩,qy,qn,rfl⟩:=h
 obtain ⟨sg,s6⟩:=sg.app
 obtain ⟨sg,s5⟩:=sg.app
 obtain ⟨sg,s4⟩:=sg.app
 obtain ⟨sg,s3⟩:=sg.app
 obtain ⟨s1,s2⟩:=sg.app
 have hbo:=bo_core L (ra la ea) (rb lc ec) hx s1 v hr hR
 generalize hlb:la++[LR.op (Row.push 0)]++lc++[LR.op x,LR.op (Row.pop 0)]=lb at *
 simp only [List.length_append,List.length_cons,List.length_nil,Nat.zero_add,← Nat.add_assoc] at s2 s3 s4 s5 s6 ⊢
 refine Blk.le (n:=2*SB cs d+3+(1+(1+(n+1)))) ?_ (by lia)
 refine hbo.trans fun sa ⟨e0,e1,k⟩=>?_
 refine (blk_op (Tr:=fun s'=>s'=⟨sa.R,cfI (sa.R 0) (sa.R 1),zfI (sa.R 0 - sa.R 1),sgn (sa.R 0 - sa.R 1),ofI (sa.R 0) (sa.R 1),sa.H⟩) L s2.1 ⟨ok0,ok1⟩ ⟨rfl,rfl,rfl⟩).trans fun s' e=>?_
 subst e
 have kk:Kp s ⟨sa.R,cfI (sa.R 0) (sa.R 1),zfI (sa.R 0 - sa.R 1),sgn (sa.R 0 - sa.R 1),ofI (sa.R 0) (sa.R 1),sa.H⟩:=⟨k.r3,k.r4,k.r5,k.ag⟩
 refine blk_jcc (b:=t.c.hold (told fn env t.a) (told fn env t.b)) L s2.2.1 s4.2.1 (by rw [← e0,← e1];exact cond_hold t.c _ _) (fun q=>?_) (fun q=>?_)
 ·refine Blk.le (n:=0+(n+0)) ?_ (by lia)
  refine (blk_lab (Tr:=fun s'=>s'=⟨sa.R,cfI (sa.R 0) (sa.R 1),zfI (sa.R 0 - sa.R 1),sgn (sa.R 0 - sa.R 1),ofI (sa.R 0) (sa.R 1),sa.H⟩) L s4.2.1 rfl).trans fun s' e=>?_
  subst e
  exact (ry ly qy _ s5 _ kk q).trans fun s' t'=>blk_lab L s6.1 t'
 ·refine (rn ln qn _ s3 _ kk q).trans fun s' t'=>?_
  refine (blk_jmp L s4.1 s6.1 t').to ?_
  exact L.lab _ _ s6.1
end
end
section
set_option tactic.hygienic false
section
variable {m:Int→Option (Row × Int)} {lrs:List LR} {P:Nat→BV} {tidy:Bool}
theorem ok5:rok 5:=⟨by decide,by decide⟩
theorem ok4:rok 4:=⟨by decide,by decide⟩
theorem ok3:rok 3:=⟨by decide,by decide⟩
@[reducible] noncomputable def called (s:Ms) (r:BV):Ms:={ s with R:=upd s.R 4 (s.R 4 - 8),H:=wr s.H ((s.R 4 - 8).toNat:Int) r }
theorem blk_call (L:Laid m lrs P) {i j:Nat} {k:Int} {s:Ms} (hi:lrs[i]?=some (.call k)) (hj:lrs[j]?=some (.lab k)):Blk m P i j 1 s fun s'=>s'=called s (P (i+1)):=fun k Q q=>by
 obtain ⟨d,wd,h1,h2,h3⟩:=L.call i j _ hi hj
 refine ⟨_,wd,h1,trivial,?_⟩
 rw [h2]
 show (_→_)∧(_→_)
 refine ⟨fun e=>(nomatch e),fun _=>?_⟩
 rw [h3]
 exact q _ rfl
theorem blk_ret (L:Laid m lrs P) {i j:Nat} {s:Ms} (hi:lrs[i]?=some (.op .ret)) (hr:rd s.H ((s.R 4).toNat:Int)=P j):Blk m P i j 1 s fun s'=>s'={ s with R:=upd s.R 4 (s.R 4+8) }:=fun k Q q=>by
 obtain ⟨wd,h1,h2⟩:=L.op i _ hi
 refine ⟨_,wd,h1,trivial,?_⟩
 rw [h2]
 show (_→_)∧(_→_)
 refine ⟨fun e=>(nomatch e),fun _=>?_⟩
 rw [hr]
 exact q _ rfl
theorem blk_retI (L:Laid m lrs P) {i j:Nat} {s:Ms} {x:Int} (hi:lrs[i]?=some (.op (.retI x))) (hr:rd s.H ((s.R 4).toNat:Int)=P j):Blk m P i j 1 s fun s'=>s'={ s with R:=upd (upd s.R 4 (s.R 4+8)) 4 (BitVec.ofInt 64 (((s.R 4+8).toNat:Int)+x)) }:=fun k Q q=>by
 obtain ⟨wd,h1,h2⟩:=L.op i _ hi
 refine ⟨_,wd,h1,trivial,?_⟩
 rw [h2]
 show (_→_)∧(_→_)
 refine ⟨fun e=>(nomatch e),fun _=>?_⟩
 rw [hr]
 exact q _ rfl
theorem fn_run (L:Laid m lrs P) {f:Fn} (fw:f.wf) {las:List LR} {mark:Int} (ha:As [24,16] tidy f.t (Em [24,16] tidy f.y) (Em [24,16] tidy f.n) mark las) {j:Nat} (sg:Seg lrs j (Fl tidy las)):CallOk m lrs P tidy f.sem 35 200:=by
 intro i hi s hr hR
 unfold Fl at sg
 obtain ⟨sg,s5⟩:=sg.app
 obtain ⟨⟨s1,s2,s3,_⟩,s4⟩:=sg.app
 simp only [List.length_append,List.length_cons,List.length_nil,Nat.zero_add,← Nat.add_assoc] at s4 s5
 generalize ea:rd s.H ((s.R 4).toNat+8)=a
 generalize eb:rd s.H (s.R 4).toNat=b
 have h8:8≤(s.R 4).toNat:=by lia
 have c4:((called s (P (i+1))).R 4)=s.R 4 - 8:=show upd s.R 4 (s.R 4 - 8) 4=_ from upd_eq
 have c8:((called s (P (i+1))).R 4).toNat=(s.R 4).toNat - 8:=by rw [c4,sub8 h8]
 have ca:Ag s.H (called s (P (i+1))).H (s.R 4).toNat:=by
  have:=sub8 h8
  exact Ag.wr (by lia) (by lia) (by lia)
 have cr:rd (called s (P (i+1))).H ((s.R 4 - 8).toNat:Int)=P (i+1):=by
  have:=sub8 h8
  exact rd_wr (by lia) (by lia)
 have g8:8≤((called s (P (i+1))).R 4).toNat:=by lia
 have g38:((called s (P (i+1))).R 4).toNat < 2^38:=by lia
 have d4:(pushed (called s (P (i+1))) 5).R 4=s.R 4 - 8 - 8:=by rw [pushed_r4,c4]
 have d8:((pushed (called s (P (i+1))) 5).R 4).toNat=(s.R 4).toNat - 16:=by rw [pushed_r4,sub8 g8,c8];lia
 have da:=pushed_ag (k:=5) g8 g38
 have dr:=pushed_rd (k:=5) g8 g38
 rw [c8] at da
 refine Blk.le (n:=1+(0+(1+(1+((2*SB 0 1+6+SB 0 1)+(1+1)))))) ?_ (by decide)
 refine (blk_call L hi s1).trans fun sa e=>?_
 subst e
 refine (blk_lab (Tr:=fun s'=>s'=called s (P (i+1))) L s1 rfl).trans fun sa e=>?_
 subst e
 refine (blk_push L s2 ok5).trans fun sa e=>?_
 subst e
 generalize hs1:called s (P (i+1))=s1' at *
 refine (blk_op (s:=pushed s1' 5) (Tr:=fun s'=>s'.R 0=s1'.R 0∧s'.R 3=s1'.R 3∧s'.R 4=(pushed s1' 5).R 4∧s'.R 5=(pushed s1' 5).R 4∧s'.H=(pushed s1' 5).H) L s3 ⟨ok5,ok4⟩ ⟨rfl,rfl,rfl,rfl,rfl,rfl,rfl⟩).trans fun sb ⟨e0,e3,e4,e5,eh⟩=>?_
 have n4:(sb.R 4).toNat=(s.R 4).toNat - 16:=by rw [e4,d8]
 have n5:(sb.R 5).toNat=(s.R 4).toNat - 16:=by rw [e5,d8]
 have vo:VarsOk [24,16] 2 (env2 a b) sb:=by
  intro k hk
  rw [n4,n5,eh]
  rcases (show k=0∨k=1 by lia) with rfl|rfl
  ·refine ⟨?_,?_,?_⟩
   ·show (((s.R 4).toNat - 16:Nat):Int)≤24+(((s.R 4).toNat - 16:Nat):Int);lia
   ·show (24:Int)+(((s.R 4).toNat - 16:Nat):Int)+8≤_;lia
   ·show rd _ ((24:Int)+(((s.R 4).toNat - 16:Nat):Int))=a
    rw [da.rd (by lia) (by lia),ca.rd (by lia) (by lia),← ea]
    congr 1
    lia
  ·refine ⟨?_,?_,?_⟩
   ·show (((s.R 4).toNat - 16:Nat):Int)≤16+(((s.R 4).toNat - 16:Nat):Int);lia
   ·show (16:Int)+(((s.R 4).toNat - 16:Nat):Int)+8≤_;lia
   ·show rd _ ((16:Int)+(((s.R 4).toNat - 16:Nat):Int))=b
    rw [da.rd (by lia) (by lia),ca.rd (by lia) (by lia),← eb]
    congr 1
    lia
 have no:2=4→CallOk m lrs P tidy noFn 0 0:=fun q=>by lia
 refine (as_run (fn:=noFn) (Tr:=fun s'=>s'.R 0=f.sem a b∧Kp sb s') L ha (fun la h=>em_run L no h 1 fw.1.1) (fun lb h=>em_run L no h 1 (Tr.wf_leaf fw.1.2.1 fw.1.2.2)) s4 vo (by lia) (by lia) (fun ly h j sg s' k q=>?_) (fun ln h j sg s' k q=>?_)).trans fun sc ⟨f0,fk⟩=>?_
 ·have e:f.sem a b=told noFn (env2 a b) f.y:=if_pos q
  rw [e]
  exact (em_run L no h 1 fw.2.1 j sg s' (vo.kp k) (by rw [k.r4];lia) (by rw [k.r4];lia)).mono fun s'' ⟨x,y⟩=>⟨x,k.trans y⟩
 ·have e:f.sem a b=told noFn (env2 a b) f.n:=if_neg (by rw [q];exact Bool.false_ne_true)
  rw [e]
  exact (em_run L no h 1 fw.2.2 j sg s' (vo.kp k) (by rw [k.r4];lia) (by rw [k.r4];lia)).mono fun s'' ⟨x,y⟩=>⟨x,k.trans y⟩
 ·have m4:sc.R 4=s.R 4 - 8 - 8:=by rw [fk.r4,e4,d4]
  have m5:sc.R 5=s.R 4 - 8 - 8:=by rw [fk.r5,e5,d4]
  have mn:(s.R 4 - 8 - 8).toNat=(s.R 4).toNat - 16:=by rw [← d4,d8]
  have fa:=fk.ag
  rw [n4,eh] at fa
  have x5:rd sc.H ((s.R 4 - 8 - 8).toNat:Int)=s.R 5:=by
   rw [fa.rd (by lia) (by lia),← c4,dr,← hs1];rfl
  have xr:rd sc.H ((s.R 4 - 8).toNat:Int)=P (i+1):=by
   have:=sub8 h8
   rw [fa.rd (by lia) (by lia),da.rd (by lia) (by lia),cr]
  have x3:sc.R 3=s.R 3:=by rw [fk.r3,e3,← hs1];rfl
  have ag:Ag s.H sc.H (s.R 4).toNat:=(ca.trans (da.le (by lia))).trans (fa.le (by lia))
  cases tidy with
  | true=>
   obtain ⟨s6,s7,_⟩:=s5
   refine (blk_op (s:=sc) (Tr:=fun s'=>s'.R 0=sc.R 0∧s'.R 3=sc.R 3∧s'.R 4=s.R 4 - 8∧s'.R 5=s.R 5∧s'.H=sc.H) L s6 trivial ⟨rfl,rfl,rfl,rfl,?_,?_,rfl⟩).trans fun sd ⟨y0,y3,y4,y5,yh⟩=>?_
   ·show sc.R 5+8=_
    rw [m5,sub8a]
   ·show rd sc.H ((sc.R 5).toNat:Int)=_
    rw [m5,x5]
   ·refine (blk_retI (j:=i+1) L s7 (by rw [y4,yh,xr])).mono fun se e=>?_
    subst e
    refine ⟨y0.trans f0,y3.trans x3,y5,?_,by show Ag s.H sd.H _;rw [yh];exact ag⟩
    show BitVec.ofInt 64 (((sd.R 4+8).toNat:Int)+16)=s.R 4+16
    rw [y4,sub8a,Int.add_comm,ofInt_addR,BitVec.add_comm]
    rfl
  | false=>
   obtain ⟨s6,s7,_⟩:=s5
   refine (blk_op (s:=sc) (Tr:=fun s'=>s'.R 0=sc.R 0∧s'.R 3=sc.R 3∧s'.R 4=s.R 4 - 8∧s'.R 5=s.R 5∧s'.H=sc.H) L s6 ok5 ⟨rfl,rfl,rfl,rfl,?_,?_,rfl⟩).trans fun sd ⟨y0,y3,y4,y5,yh⟩=>?_
   ·show sc.R 4+8=_
    rw [m4,sub8a]
   ·show rd sc.H ((sc.R 4).toNat:Int)=_
    rw [m4,x5]
   ·refine (blk_ret (j:=i+1) L s7 (by rw [y4,yh,xr])).mono fun se e=>?_
    subst e
    refine ⟨y0.trans f0,y3.trans x3,y5,?_,by show Ag s.H sd.H _;rw [yh];exact ag⟩
    show sd.R 4+8=s.R 4+0
    rw [y4,sub8a]
    exact (BitVec.add_zero _).symm
end
@[reducible] noncomputable def hs4:List Int:=[-8,-16,-24,-32]
theorem hs4_get {k:Nat} (h:k < 4):hs4.getD k 0=-8 - 8*(k:Int):=by
 rcases (show k=0∨k=1∨k=2∨k=3 by lia) with rfl|rfl|rfl|rfl<;>rfl
structure MI (H0:Int→Option B8) (s:Ms) (vs:List BV):Prop where
 r4:s.R 4=32728#64
 r5:s.R 5=32760#64
 ag:Ag H0 s.H 32760
 len:vs.length=4
 rv:∀ k:Nat,k < 4→rd s.H (32752 - 8*(k:Int))=vs.getD k 0
theorem n4:(32728#64:BV).toNat=32728:=rfl
theorem n5:(32760#64:BV).toNat=32760:=rfl
section
variable {m:Int→Option (Row × Int)} {lrs:List LR} {P:Nat→BV} {tidy:Bool} {H0:Int→Option B8} {s s':Ms} {vs:List BV}
theorem MI.vars (i:MI H0 s vs):VarsOk hs4 4 (gd vs) s:=fun k hk=>by
 rw [i.r4,i.r5,n4,n5,hs4_get hk,show gd vs k=vs.getD k 0 from rfl,← i.rv k hk]
 refine ⟨by lia,by lia,?_⟩
 congr 1
 lia
theorem MI.kp (i:MI H0 s vs) (k:Kp s s'):MI H0 s' vs:=by
 have ag:=k.ag
 rw [i.r4,n4] at ag
 exact ⟨k.r4.trans i.r4,k.r5.trans i.r5,i.ag.trans (ag.le (by lia)),i.len,fun j hj=>(ag.rd (by lia) (by lia)).trans (i.rv j hj)⟩
theorem MI.store (i:MI H0 s vs) {k:Nat} (hk:k < 4) {v:BV} {R:Int→BV} {cf zf sf of:Int} (h4:R 4=s.R 4) (h5:R 5=s.R 5):MI H0 ⟨R,cf,zf,sf,of,wr s.H (32752 - 8*(k:Int)) v⟩ (vs.set k v):=by
 refine ⟨h4.trans i.r4,h5.trans i.r5,i.ag.trans (Ag.wr (by lia) (by lia) (by lia)),by rw [List.length_set,i.len],fun j hj=>?_⟩
 show rd (wr s.H _ v) _=_
 rw [List.getD_eq_getElem?_getD,List.getElem?_set]
 by_cases q:k=j
 ·subst q
  rw [if_pos rfl,if_pos (by rw [i.len];exact hk),rd_wr (by lia) (by lia)]
  rfl
 ·rw [if_neg q,rd_wr_ne (by lia) (by lia) (by lia) (by lia) (by lia),← List.getD_eq_getElem?_getD]
  exact i.rv j hj
theorem e1_run (L:Laid m lrs P) {fn:BV→BV→BV} (hc:CallOk m lrs P tidy fn 35 200) {x:St1} {d:Nat} (hd:d≤2) (xw:x.wf d) {l:List LR} (h:E1 hs4 tidy x l) {i:Nat} (sg:Seg lrs i l) (mi:MI H0 s vs):
  Blk m P i (i+l.length) (SB 35 d+1) s fun s'=>MI H0 s' (do1 fn vs x)∧s'.R 3=s.R 3:=by
 obtain ⟨la,e,rfl⟩:=h
 obtain ⟨s1,s2⟩:=sg.app
 have r4:=mi.r4
 rw [List.length_append,← Nat.add_assoc]
 refine (em_run L (fun _=>hc) e d xw.2 i s1 s mi.vars (by rw [r4,n4];lia) (by rw [r4,n4];decide)).trans fun sa ⟨e0,k⟩=>?_
 have ma:=mi.kp k
 refine blk_op (s:=sa) L s2.1 ⟨ok5,ok0⟩ ⟨rfl,rfl,?_,k.r3⟩
 have:=ma.store (k:=x.k) (v:=sa.R 0) (R:=sa.R) (cf:=sa.cf) (zf:=sa.zf) (sf:=sa.sf) (of:=sa.of) xw.1 rfl rfl
 rw [e0] at this
 have ep:pl (hs4.getD x.k 0+((sa.R 5).toNat:Int))=32752 - 8*(x.k:Int):=by
  have:=xw.1
  rw [ma.r5,n5,hs4_get xw.1,pl_of (by lia) (by lia)]
  lia
 show MI H0 ⟨sa.R,sa.cf,sa.zf,sa.sf,sa.of,wr sa.H (pl (hs4.getD x.k 0+((sa.R 5).toNat:Int))) (sa.R 0)⟩ (do1 fn vs x)
 rw [ep,e0]
 exact this
theorem e1s_run (L:Laid m lrs P) {fn:BV→BV→BV} (hc:CallOk m lrs P tidy fn 35 200) {d:Nat} (hd:d≤2):∀ {xs:List St1} (xw:∀ x∈xs,x.wf d) {l:List LR} (h:E1s hs4 tidy xs l) {i:Nat} (sg:Seg lrs i l) {s:Ms} {vs:List BV} (mi:MI H0 s vs),
  Blk m P i (i+l.length) (xs.length*(SB 35 d+1)) s fun s'=>MI H0 s' (xs.foldl (do1 fn) vs)∧s'.R 3=s.R 3
 | [],_,l,h,i,sg,s,vs,mi=>by
  rw [show l=[] from h]
  exact (Blk.refl (Tr:=fun s'=>MI H0 s' vs∧s'.R 3=s.R 3) ⟨mi,rfl⟩).le (by lia)
 | x::xs,xw,l,⟨a,b,ha,hb,e⟩,i,sg,s,vs,mi=>by
  subst e
  obtain ⟨s1,s2⟩:=sg.app
  rw [List.length_append,← Nat.add_assoc]
  refine ((e1_run L hc hd (xw x (.head _)) ha s1 mi).trans fun sa ⟨ma,r3⟩=>(e1s_run L hc hd (fun y hy=>xw y (.tail _ hy)) hb s2 ma).mono fun sb ⟨mb,r3'⟩=>⟨mb,r3'.trans r3⟩).le ?_
  rw [List.length_cons,Nat.succ_mul];lia
theorem sb1:SB 35 1=43:=rfl
theorem sb2:SB 35 2=127:=rfl
theorem ne_ofNat {k:Nat} (h0:0 < k) (h:k < 1000):BitVec.ofNat 64 k≠0#64:=fun e=>by
 have:=congrArg BitVec.toNat e
 rw [BitVec.toNat_ofNat,BitVec.toNat_ofNat] at this
 lia
theorem loop_run (L:Laid m lrs P) {fn:BV→BV→BV} (hc:CallOk m lrs P tidy fn 35 200) {y:St1} (yw:y.wf 1) {b:List LR} (hb:E1s hs4 tidy [y] b) {mk:Int} {j:Nat} (sg:Seg lrs j ([.lab (mk+1),.op (.test 3 (.reg 3)),.jcc .e (mk+2)]++b++[.op (.dec 3),.jmp (mk+1),.lab (mk+2)])):
  ∀ (k:Nat) (hk:k≤2) {s:Ms} {vs:List BV} (mi:MI H0 s vs) (h3:s.R 3=BitVec.ofNat 64 k),Blk m P j (j+3+b.length+3) (k*48+2) s fun s'=>MI H0 s' (doN fn y k vs):=by
 obtain ⟨sg,s3⟩:=sg.app
 obtain ⟨⟨a1,a2,a3,_⟩,s2⟩:=sg.app
 simp only [List.length_append,List.length_cons,List.length_nil,Nat.zero_add,← Nat.add_assoc] at s2 s3
 obtain ⟨b1,b2,b3,_⟩:=s3
 have eL:P (j+3+b.length+3)=P (j+3+b.length+2):=L.lab _ _ b3
 intro k
 induction k with
 | zero=>
  intro _ s vs mi h3
  refine Blk.le (n:=0+(1+(1+0))) ?_ (by lia)
  refine (blk_lab (Tr:=fun s'=>s'=s) L a1 rfl).trans fun sa e=>?_
  subst e
  refine (blk_op (s:=sa) (Tr:=fun s'=>s'.R=sa.R∧s'.H=sa.H∧s'.zf=zfI (sa.R 3 &&& sa.R 3)) L a2 ⟨ok3,ok3⟩ fun _ _ _=>⟨rfl,rfl,rfl,rfl,rfl⟩).trans fun sb ⟨er,eh,ez⟩=>?_
  refine blk_jcc (b:=true) (Tr:=fun s'=>MI H0 s' vs) L a3 b3 ?_ (fun _=>(Blk.refl ?_).to eL) (fun q=>nomatch q)
  ·show decide (sb.zf=1)=true
   rw [ez,h3,BitVec.and_self]
   rfl
  ·exact ⟨by rw [er];exact mi.r4,by rw [er];exact mi.r5,by rw [eh];exact mi.ag,mi.len,fun k hk=>by rw [eh];exact mi.rv k hk⟩
 | succ k ih=>
  intro hk s vs mi h3
  refine Blk.le (n:=0+(1+(1+(1*(SB 35 1+1)+(1+(1+(k*48+2))))))) ?_ (by rw [sb1];lia)
  refine (blk_lab (Tr:=fun s'=>s'=s) L a1 rfl).trans fun sa e=>?_
  subst e
  refine (blk_op (s:=sa) (Tr:=fun s'=>s'.R=sa.R∧s'.H=sa.H∧s'.zf=zfI (sa.R 3 &&& sa.R 3)) L a2 ⟨ok3,ok3⟩ fun _ _ _=>⟨rfl,rfl,rfl,rfl,rfl⟩).trans fun sb ⟨er,eh,ez⟩=>?_
  refine blk_jcc (b:=false) L a3 b3 ?_ (fun q=>nomatch q) (fun _=>?_)
  ·show decide (sb.zf=1)=false
   rw [ez,h3,BitVec.and_self]
   unfold zfI
   rw [if_neg (ne_ofNat (by lia) (by lia))]
   rfl
  ·have mb:MI H0 sb vs:=⟨by rw [er];exact mi.r4,by rw [er];exact mi.r5,by rw [eh];exact mi.ag,mi.len,fun k hk=>by rw [eh];exact mi.rv k hk⟩
   refine (e1s_run L hc (by decide) (xs:=[y]) (fun x hx=>by rw [List.mem_singleton.mp hx];exact yw) hb s2 mb).trans fun sc ⟨mc,r3⟩=>?_
   refine (blk_op (s:=sc) (Tr:=fun s'=>s'.R 3=BitVec.ofNat 64 k∧MI H0 s' (do1 fn vs y)) L b1 ok3 fun _ _ _ _=>⟨rfl,rfl,?_,?_⟩).trans fun sd ⟨r3',md⟩=>?_
   ·show sc.R 3 - 1=_
    rw [r3,er,h3]
    apply BitVec.eq_of_toNat_eq
    rw [BitVec.toNat_sub,BitVec.toNat_ofNat,BitVec.toNat_ofNat]
    have e:(1:BV).toNat=1:=rfl
    rw [e]
    lia
   ·exact ⟨mc.r4,mc.r5,mc.ag,mc.len,mc.rv⟩
   ·refine (blk_jmp (Tr:=fun s'=>s'=sd) L b2 a1 rfl).trans fun se e=>?_
    subst e
    exact ih (by lia) md r3'
theorem es_run (L:Laid m lrs P) {fn:BV→BV→BV} (hc:CallOk m lrs P tidy fn 35 200) {x:Sm} (xw:x.wf) {mk mk':Int} {l:List LR} (h:ES hs4 tidy x mk l mk') {i:Nat} (sg:Seg lrs i l) (mi:MI H0 s vs):
  Blk m P i (i+l.length) 220 s fun s'=>MI H0 s' (doS fn vs x):=by
 cases x with
 | set x=>exact ((e1_run L hc (by decide) xw h.1 sg mi).mono fun s' q=>q.1).le (by rw [sb2];lia)
 | iff t y ns=>
  obtain ⟨tw,yw,nl,nw⟩:=xw
  have r4:=mi.r4
  refine (as_run (n:=128) L h.1 (fun la e=>em_run L (fun _=>hc) e 1 tw.1) (fun la e=>em_run L (fun _=>hc) e 1 (Tr.wf_leaf tw.2.1 tw.2.2)) sg mi.vars (by rw [r4,n4];lia) (by rw [r4,n4];decide) (fun ly h j sg s' k q=>?_) (fun ln h j sg s' k q=>?_)).le (by rw [sb1];lia)
  ·have e:doS fn vs (.iff t y ns)=do1 fn vs y:=if_pos q
   rw [e]
   exact ((e1s_run L hc (Nat.le_refl 2) (xs:=[y]) (fun x hx=>by rw [List.mem_singleton.mp hx];exact yw) h sg (mi.kp k)).mono fun s' q=>q.1).le (by rw [sb2];exact Nat.le_refl 128)
  ·have e:doS fn vs (.iff t y ns)=ns.foldl (do1 fn) vs:=if_neg (by rw [q];exact Bool.false_ne_true)
   rw [e]
   refine ((e1s_run L hc (d:=1) (by decide) nw h sg (mi.kp k)).mono fun s' q=>q.1).le ?_
   rw [sb1]
   lia
 | loop k y=>
  obtain ⟨b,hb,rfl,_⟩:=h
  rw [List.append_assoc] at sg
  obtain ⟨a1,a2,a3,a4,sg⟩:=sg
  have e:i+([LR.op (.movR 3 (.imm (k:Int))),.lab (mk+1),.op (.test 3 (.reg 3)),.jcc .e (mk+2)]++b++[LR.op (.dec 3),.jmp (mk+1),.lab (mk+2)]).length=i+1+3+b.length+3:=by simp only [List.length_append,List.length_cons,List.length_nil];lia
  rw [e]
  have kb:=xw.1
  refine Blk.le (n:=1+(k*48+2)) ?_ (by lia)
  refine (blk_op (s:=s) (Tr:=fun s'=>s'.R 3=BitVec.ofNat 64 k∧MI H0 s' vs) L a1 ⟨ok3,trivial⟩ ⟨rfl,rfl,?_,?_⟩).trans fun sa ⟨r3,ma⟩=>?_
  ·show BitVec.ofInt 64 (k:Int)=_
   rw [BitVec.ofInt_natCast]
  ·exact ⟨mi.r4,mi.r5,mi.ag,mi.len,mi.rv⟩
  ·exact loop_run L hc xw.2 hb (mk:=mk) (by rw [List.append_assoc];exact ⟨a2,a3,a4,sg⟩) k (by lia) ma r3
theorem ess_run (L:Laid m lrs P) {fn:BV→BV→BV} (hc:CallOk m lrs P tidy fn 35 200):∀ {xs:List Sm} (xw:∀ x∈xs,x.wf) {mk mk':Int} {l:List LR} (h:ESs hs4 tidy xs mk l mk') {i:Nat} (sg:Seg lrs i l) {s:Ms} {vs:List BV} (mi:MI H0 s vs),
  Blk m P i (i+l.length) (xs.length*220) s fun s'=>MI H0 s' (xs.foldl (doS fn) vs)
 | [],_,_,_,l,h,i,sg,s,vs,mi=>by
  rw [show l=[] from h.1]
  exact (Blk.refl (Tr:=fun s'=>MI H0 s' vs) mi).le (by lia)
 | x::xs,xw,mk,mk',l,⟨a,m1,b,ha,hb,e⟩,i,sg,s,vs,mi=>by
  subst e
  obtain ⟨s1,s2⟩:=sg.app
  rw [List.length_append,← Nat.add_assoc]
  refine ((es_run L hc (xw x (.head _)) ha s1 mi).trans fun sa ma=>ess_run L hc (fun y hy=>xw y (.tail _ hy)) hb s2 ma).le ?_
  rw [List.length_cons,Nat.succ_mul];lia
end
section
variable {m:Int→Option (Row × Int)} {lrs:List LR} {P:Nat→BV} {tidy:Bool} {s:Ms}
theorem st_run (L:Laid m lrs P) {i:Nat} {v:BV} {h p:Int} (hp:pl (h+32760)=p) (h5:s.R 5=32760#64) (h1:lrs[i]?=some (.op (.movR 0 (.imm (v.toNat:Int))))) (h2:lrs[i+1]?=some (.op (.movM 5 h (.reg 0)))):
  Blk m P i (i+2) 2 s fun s'=>s'.R 4=s.R 4∧s'.R 5=s.R 5∧s'.H=wr s.H p v:=by
 refine (Blk.trans (n:=1) (n':=1) (l:=i+1+1) (blk_op (s:=s) (Tr:=fun s'=>s'.R 0=v∧s'.R 4=s.R 4∧s'.R 5=s.R 5∧s'.H=s.H) L h1 ⟨ok0,trivial⟩ ⟨rfl,rfl,?_,rfl,rfl,rfl⟩) fun sa ⟨a0,a4,a5,ah⟩=>?_).le (by decide)
 ·show BitVec.ofInt 64 (v.toNat:Int)=v
  rw [BitVec.ofInt_natCast,BitVec.ofNat_toNat]
  exact BitVec.setWidth_eq v
 ·refine blk_op (s:=sa) L h2 ⟨ok5,ok0⟩ ⟨rfl,rfl,a4,a5,?_⟩
  show wr sa.H (pl (h+((sa.R 5).toNat:Int))) (sa.R 0)=_
  rw [a5,h5,a0,ah,← hp];rfl
theorem main_run (L:Laid m lrs P) {f:Fn} (fw:f.wf) {v0 v1 v2 v3:BV} {xs:List Sm} (xw:∀ x∈xs,x.wf) (xl:xs.length≤2) {ls las:List LR} {mk mk' mark:Int} (hs:ESs hs4 tidy xs mk ls mk')
  (ha:As [24,16] tidy f.t (Em [24,16] tidy f.y) (Em [24,16] tidy f.n) mark las) (sg:Seg lrs 0 (Pro tidy v0 v1 v2 v3++ls++[.op .leave,.op .hlt]++Fl tidy las)) (r4:s.R 4=32768#64):
  RunS m 460 s (P 0) fun R H=>R 4=32768#64∧R 5=s.R 5∧Ag s.H H 32768∧rd H 32760=s.R 5∧(xs.foldl (doS f.sem) [v0,v1,v2,v3]).length=4∧∀ k:Nat,k < 4→rd H (32752 - 8*(k:Int))=(xs.foldl (doS f.sem) [v0,v1,v2,v3]).getD k 0:=by
 obtain ⟨sg,sf⟩:=sg.app
 obtain ⟨sg,se⟩:=sg.app
 obtain ⟨sp,sl⟩:=sg.app
 have hc:=fn_run L fw ha sf
 obtain ⟨p1,p2,p3,q0,q0',q1,q1',q2,q2',q3,q3',_⟩:=sp
 obtain ⟨z1,z2,_⟩:=se
 have pn:(s.R 4).toNat=32768:=by rw [r4];rfl
 have x4:(pushed s 5).R 4=32760#64:=by rw [pushed_r4,r4];rfl
 have xa:=pushed_ag (s:=s) (k:=5) (by lia) (by lia)
 have xr:=pushed_rd (s:=s) (k:=5) (by lia) (by lia)
 rw [pn] at xa
 rw [r4] at xr
 have xr:rd (pushed s 5).H 32760=s.R 5:=xr
 have B:Blk m P 0 (0+(Pro tidy v0 v1 v2 v3).length+ls.length) (11+xs.length*220) s fun s'=>MI (pushed s 5).H s' (xs.foldl (doS f.sem) [v0,v1,v2,v3]):=by
  refine Blk.le (n:=1+(1+(1+(2+(2+(2+(2+xs.length*220))))))) ?_ (by lia)
  refine (blk_push L p1 ok5).trans fun sa e=>?_
  subst e
  refine (blk_op (s:=pushed s 5) (Tr:=fun s'=>s'.R 4=32760#64∧s'.R 5=32760#64∧s'.H=(pushed s 5).H) L p2 ⟨ok5,ok4⟩ ⟨rfl,rfl,x4,x4,rfl⟩).trans fun sa ⟨a4,a5,ah⟩=>?_
  refine Blk.trans (j:=3) (Tr:=fun s'=>s'.R 4=32728#64∧s'.R 5=32760#64∧s'.H=(pushed s 5).H) ?_ fun sb ⟨b4,b5,bh⟩=>?_
  ·cases tidy with
   | true=>
    refine blk_op (s:=sa) L p3 ⟨ok4,ok4⟩ ⟨rfl,rfl,?_,a5,ah⟩
    show BitVec.ofInt 64 (-32+((sa.R 4).toNat:Int))=_
    rw [a4];rfl
   | false=>
    refine blk_op (s:=sa) L p3 ⟨by decide +kernel,ok4,trivial⟩ fun _ _ _ _=>⟨rfl,rfl,?_,a5,ah⟩
    show bop "sub" (sa.R 4) (BitVec.ofInt 64 32)=_
    rw [bop_sub,a4];rfl
  ·refine (st_run (i:=3) L (h:=-8) (p:=32752) (pl_of (by decide) (by decide)) b5 q0 q0').trans fun sc ⟨c4,c5,ch⟩=>?_
   refine (st_run (i:=5) L (h:=-16) (p:=32744) (pl_of (by decide) (by decide)) (c5.trans b5) q1 q1').trans fun sd ⟨d4,d5,dh⟩=>?_
   refine (st_run (i:=7) L (h:=-24) (p:=32736) (pl_of (by decide) (by decide)) (d5.trans (c5.trans b5)) q2 q2').trans fun se ⟨e4,e5,eh⟩=>?_
   refine (st_run (i:=9) L (h:=-32) (p:=32728) (pl_of (by decide) (by decide)) (e5.trans (d5.trans (c5.trans b5))) q3 q3').trans fun sf ⟨f4,f5,fh⟩=>?_
   refine ess_run L hc xw hs sl ⟨f4.trans (e4.trans (d4.trans (c4.trans b4))),f5.trans (e5.trans (d5.trans (c5.trans b5))),?_,rfl,fun k hk=>?_⟩
   ·rw [fh,eh,dh,ch,bh]
    exact (((Ag.wr (by decide) (by decide) (by decide)).trans (Ag.wr (by decide) (by decide) (by decide))).trans (Ag.wr (by decide) (by decide) (by decide))).trans (Ag.wr (by decide) (by decide) (by decide))
   ·rw [fh,eh,dh,ch,bh]
    rcases (show k=0∨k=1∨k=2∨k=3 by lia) with rfl|rfl|rfl|rfl
    ·show rd _ 32752=v0
     rw [rd_wr_ne (by decide) (by decide) (by decide) (by decide) (by decide),rd_wr_ne (by decide) (by decide) (by decide) (by decide) (by decide),rd_wr_ne (by decide) (by decide) (by decide) (by decide) (by decide),rd_wr (by decide) (by decide)]
    ·show rd _ 32744=v1
     rw [rd_wr_ne (by decide) (by decide) (by decide) (by decide) (by decide),rd_wr_ne (by decide) (by decide) (by decide) (by decide) (by decide),rd_wr (by decide) (by decide)]
    ·show rd _ 32736=v2
     rw [rd_wr_ne (by decide) (by decide) (by decide) (by decide) (by decide),rd_wr (by decide) (by decide)]
    ·show rd _ 32728=v3
     rw [rd_wr (by decide) (by decide)]
 have run:Blk m P 0 (0+(Pro tidy v0 v1 v2 v3).length+ls.length+1) (11+xs.length*220+1) s fun s'=>s'.R 4=32768#64∧s'.R 5=s.R 5∧Ag s.H s'.H 32768∧rd s'.H 32760=s.R 5∧(xs.foldl (doS f.sem) [v0,v1,v2,v3]).length=4∧∀ k:Nat,k < 4→rd s'.H (32752 - 8*(k:Int))=(xs.foldl (doS f.sem) [v0,v1,v2,v3]).getD k 0:=by
  refine B.trans fun sa mi=>?_
  rw [List.length_append,← Nat.add_assoc] at z1
  have rr:rd sa.H 32760=s.R 5:=(mi.ag.rd (Int.le_refl _) (by decide)).trans xr
  refine blk_op (s:=sa) L z1 trivial ⟨rfl,rfl,?_,?_,xa.trans (mi.ag.le (by decide)),rr,mi.len,mi.rv⟩
  ·show sa.R 5+8=_
   rw [mi.r5];rfl
  ·show rd sa.H ((sa.R 5).toNat:Int)=_
   rw [mi.r5];exact rr
 have:=run 1 _ fun s' q=>(show RunS m 1 s' (P (0+(Pro tidy v0 v1 v2 v3).length+ls.length+1)) (fun R H=>R 4=32768#64∧R 5=s.R 5∧Ag s.H H 32768∧rd H 32760=s.R 5∧(xs.foldl (doS f.sem) [v0,v1,v2,v3]).length=4∧∀ k:Nat,k < 4→rd H (32752 - 8*(k:Int))=(xs.foldl (doS f.sem) [v0,v1,v2,v3]).getD k 0) from ?_)
 ·exact Run.mono (by lia) this
 ·rw [List.length_append,← Nat.add_assoc] at z2
  obtain ⟨wd,h1,h2⟩:=L.op _ _ z2
  exact ⟨_,wd,h1,trivial,fun _=>q,fun e=>nomatch e⟩
end
end
section
set_option tactic.hygienic false
section
variable {lrs:List LR} {b:Int}
theorem laid_of (u:Uniq lrs) (hn:lrs.length≤2^20):Laid (fnd lrs b lrs.length) lrs (fun i=>BitVec.ofInt 64 (plc lrs b i)):=by
 have lt:∀ {i:Nat} {x:LR},lrs[i]?=some x→i < lrs.length:=fun h=>by
  obtain ⟨q,_⟩:=List.getElem?_eq_some_iff.mp h
  exact q
 have st:∀ {i:Nat} {x:LR},lrs[i]?=some x→x.isLab=false→BitVec.ofInt 64 (((BitVec.ofInt 64 (plc lrs b i)).toNat:Int)+wdt i)=BitVec.ofInt 64 (plc lrs b (i+1)):=fun h hx=>by
  rw [ofInt_nat,plc_op h hx]
 have jp:∀ {i j:Nat} {x:LR} {k:Int},lrs[i]?=some x→x.isLab=false→lrs[j]?=some (.lab k)→BitVec.ofInt 64 (((BitVec.ofInt 64 (plc lrs b (i+1))).toNat:Int)+jd lrs b i k)=BitVec.ofInt 64 (plc lrs b j):=fun h hx hj=>by
  rw [ofInt_nat,plc_op h hx,jd_eq u hj]
  congr 1
  lia
 refine ⟨fun i r h=>⟨wdt i,fnd_get h rfl _ (lt h) hn,st h rfl⟩,fun i k h=>?_,fun i j k h hj=>⟨jd lrs b i k,wdt i,fnd_get h rfl _ (lt h) hn,st h rfl,jp h rfl hj⟩,fun i j k h hj=>⟨jd lrs b i k,wdt i,fnd_get h rfl _ (lt h) hn,st h rfl,jp h rfl hj⟩,fun i j cn k h hj=>⟨jd lrs b i k,wdt i,fnd_get h rfl _ (lt h) hn,st h rfl,jp h rfl hj⟩⟩
 show BitVec.ofInt 64 _=BitVec.ofInt 64 _
 rw [plc_lab h]
end
/-! the compiled rows: names,marks -/
noncomputable def Gd (S:Int→Prop) (l:List LR):Prop:=∀ x∈l,(x.isLab=false→(x.nmS==("":Str))=false)∧∀ k,x.tgt=some k→S k
noncomputable def labs:List LR→List Int
 | []=>[]
 | .lab k::l=>k::labs l
 | _::l=>labs l
theorem labs_app:∀ a b:List LR,labs (a++b)=labs a++labs b
 | [],_=>rfl
 | x::a,b=>by
  have:=labs_app a b
  cases x<;>simp only [List.cons_append,labs,this]
theorem labs_mem {k:Int}:∀ {l:List LR},LR.lab k∈l↔k∈labs l
 | []=>by simp [labs]
 | x::l=>by
  have:=labs_mem (k:=k) (l:=l)
  have inj:∀ j,(LR.lab k=LR.lab j)↔(k=j):=fun j=>⟨fun e=>by cases e;rfl,fun e=>e▸rfl⟩
  cases x<;>simp [labs,this,inj]
theorem labs_get {l:List LR} {i:Nat} {k:Int} (h:l[i]?=some (.lab k)):k∈labs l:=labs_mem.mp (List.mem_of_getElem? h)
theorem uniq_of:∀ {l:List LR},(labs l).Nodup→Uniq l
 | [],_,i,j,k,h,_=>by simp at h
 | x::l,nd,i,j,k,h,h'=>by
  have ndl:(labs l).Nodup:=by cases x<;>first|exact nd|exact (List.nodup_cons.mp nd).2
  have no:x=.lab k→k∉labs l:=fun e=>by subst e;exact (List.nodup_cons.mp nd).1
  cases i with
  | zero=>
   cases j with
   | zero=>rfl
   | succ j=>
    simp only [List.getElem?_cons_zero,Option.some.injEq,List.getElem?_cons_succ] at h h'
    exact absurd (labs_get h') (no h)
  | succ i=>
   cases j with
   | zero=>
    simp only [List.getElem?_cons_zero,Option.some.injEq,List.getElem?_cons_succ] at h h'
    exact absurd (labs_get h) (no h')
   | succ j=>
    simp only [List.getElem?_cons_succ] at h h'
    rw [uniq_of ndl i j k h h']
theorem Gd.app {S:Int→Prop} {a b:List LR} (x:Gd S a) (y:Gd S b):Gd S (a++b):=fun z hz=>(List.mem_append.mp hz).elim (x z) (y z)
theorem Gd.nil {S:Int→Prop}:Gd S []:=fun z hz=>nomatch hz
theorem Gd.cons {S:Int→Prop} {x:LR} {l:List LR} (h1:x.isLab=false→(x.nmS==("":Str))=false) (h2:∀ k,x.tgt=some k→S k) (h:Gd S l):Gd S (x::l):=fun z hz=>by
 rcases List.mem_cons.mp hz with rfl|hz
 ·exact ⟨h1,h2⟩
 ·exact h z hz
theorem Gd.op {S:Int→Prop} {r:Row} {l:List LR} (h1:(r.nm==("":Str))=false) (h:Gd S l):Gd S (.op r::l):=.cons (fun _=>h1) (fun k e=>nomatch e) h
theorem Gd.lab {S:Int→Prop} {k:Int} {l:List LR} (h:Gd S l):Gd S (.lab k::l):=.cons (fun e=>nomatch e) (fun k e=>nomatch e) h
theorem Gd.jmp {S:Int→Prop} {k:Int} {l:List LR} (hs:S k) (h:Gd S l):Gd S (.jmp k::l):=.cons (fun _=>by kernel_rfl) (fun k' e=>by cases e;exact hs) h
theorem Gd.call {S:Int→Prop} {k:Int} {l:List LR} (hs:S k) (h:Gd S l):Gd S (.call k::l):=.cons (fun _=>by kernel_rfl) (fun k' e=>by cases e;exact hs) h
theorem Gd.jcc {S:Int→Prop} {cn:Cd} {k:Int} {l:List LR} (hs:S k) (h:Gd S l):Gd S (.jcc cn k::l):=.cons (fun _=>by cases cn<;>kernel_rfl) (fun k' e=>by cases e;exact hs) h
theorem Dd.gd {S:Int→Prop} {o:O2} {p:Op} {l:List LR} (h:Dd o p l):Gd S l∧labs l=[]:=by
 cases h
 ·exact ⟨.op (by kernel_rfl) (.op (by kernel_rfl) (.op (by kernel_rfl) .nil)),rfl⟩
 ·exact ⟨.op (by kernel_rfl) (.op (by kernel_rfl) .nil),rfl⟩
 ·exact ⟨.op (by kernel_rfl) (.op (by kernel_rfl) .nil),rfl⟩
 all_goals exact ⟨.op (by kernel_rfl) .nil,rfl⟩
theorem Em.gd {S:Int→Prop} (h0:S 0) {hs:List Int} {tidy:Bool} {t:Tr} {l:List LR} (h:Em hs tidy t l):Gd S l∧labs l=[]:=by
 induction h with
 | num v=>exact ⟨.op (by kernel_rfl) .nil,rfl⟩
 | var k=>exact ⟨.op (by kernel_rfl) .nil,rfl⟩
 | neg _ ih=>exact ⟨ih.1.app (.op (by kernel_rfl) .nil),by rw [labs_app,ih.2];rfl⟩
 | call _ _ ia ib=>
  refine ⟨((((ia.1.app (.op (by kernel_rfl) .nil)).app ib.1).app (.op (by kernel_rfl) .nil)).app (.call h0 .nil)).app ?_,?_⟩
  ·cases tidy with
   | true=>exact .nil
   | false=>exact .op (by kernel_rfl) .nil
  ·rw [labs_app,labs_app,labs_app,labs_app,labs_app,ia.2,ib.2]
   cases tidy<;>rfl
 | nearN _ hd ih=>exact ⟨ih.1.app hd.gd.1,by rw [labs_app,ih.2,(hd.gd (S:=S)).2];rfl⟩
 | nearV _ hd ih=>exact ⟨ih.1.app hd.gd.1,by rw [labs_app,ih.2,(hd.gd (S:=S)).2];rfl⟩
 | far _ _ hx hd ia ib=>
  refine ⟨((((ia.1.app (.op (by kernel_rfl) .nil)).app ib.1).app ?_)).app hd.gd.1,?_⟩
  ·rcases hx with rfl|rfl
   ·exact .op (by kernel_rfl) (.op (by kernel_rfl) .nil)
   ·exact .op (by kernel_rfl) (.op (by kernel_rfl) .nil)
  ·rw [labs_app,labs_app,labs_app,labs_app,ia.2,ib.2,(hd.gd (S:=S)).2]
   rfl
theorem Bo.gd {S:Int→Prop} (h0:S 0) {hs:List Int} {tidy:Bool} {a b:Tr} {l:List LR} (h:Bo hs tidy a b l):Gd S l∧labs l=[]:=by
 obtain ⟨la,lb,x,ia,ib,hx,rfl⟩:=h
 have ia:=ia.gd h0
 have ib:=ib.gd h0
 refine ⟨((ia.1.app (.op (by kernel_rfl) .nil)).app ib.1).app ?_,?_⟩
 ·rcases hx with rfl|rfl
  ·exact .op (by kernel_rfl) (.op (by kernel_rfl) .nil)
  ·exact .op (by kernel_rfl) (.op (by kernel_rfl) .nil)
 ·rw [labs_app,labs_app,labs_app,ia.2,ib.2]
  rfl
theorem As.gd {S:Int→Prop} (h0:S 0) {hs:List Int} {tidy:Bool} {t:Ts} {Qy Qn:List LR→Prop} {m:Int} {l:List LR} (h:As hs tidy t Qy Qn m l) (h1:S (m+1)) (h2:S (m+2)) (hy:∀ l,Qy l→Gd S l∧labs l=[]) (hn:∀ l,Qn l→Gd S l∧labs l=[]):Gd S l∧labs l=[m+1,m+2]:=by
 obtain ⟨lb,ly,ln,hb,qy,qn,rfl⟩:=h
 have hb:=hb.gd h0
 have hy:=hy ly qy
 have hn:=hn ln qn
 refine ⟨((((hb.1.app (.op (by kernel_rfl) (.jcc h1 .nil))).app hn.1).app (.jmp h2 (.lab .nil))).app hy.1).app (.lab .nil),?_⟩
 rw [labs_app,labs_app,labs_app,labs_app,labs_app,hb.2,hy.2,hn.2]
 rfl
theorem E1.gd {S:Int→Prop} (h0:S 0) {hs:List Int} {tidy:Bool} {x:St1} {l:List LR} (h:E1 hs tidy x l):Gd S l∧labs l=[]:=by
 obtain ⟨la,e,rfl⟩:=h
 have e:=e.gd h0
 exact ⟨e.1.app (.op (by kernel_rfl) .nil),by rw [labs_app,e.2];rfl⟩
theorem E1s.gd {S:Int→Prop} (h0:S 0) {hs:List Int} {tidy:Bool}:∀ {xs:List St1} {l:List LR},E1s hs tidy xs l→Gd S l∧labs l=[]
 | [],l,h=>by rw [show l=[] from h];exact ⟨.nil,rfl⟩
 | x::xs,l,⟨a,b,ha,hb,e⟩=>by
  subst e
  have ha:=ha.gd h0
  have hb:=E1s.gd h0 hb
  exact ⟨ha.1.app hb.1,by rw [labs_app,ha.2,hb.2];rfl⟩
noncomputable def rg (m:Int) (n:Nat):List Int:=(List.range n).map fun i:Nat=>m+1+(i:Int)
theorem rg_app (m:Int) (a b:Nat):rg m a++rg (m+a) b=rg m (a+b):=by
 unfold rg
 rw [List.range_add,List.map_append,List.map_map]
 congr 1
 apply List.map_congr_left
 intro i _
 show m+(a:Int)+1+(i:Int)=m+1+((a+i:Nat):Int)
 lia
theorem rg_mem {m k:Int} {n:Nat}:k∈rg m n↔m < k∧k≤m+n:=by
 unfold rg
 rw [List.mem_map]
 constructor
 ·rintro ⟨i,hi,rfl⟩
  have:=List.mem_range.mp hi
  lia
 ·intro h
  exact ⟨(k - m - 1).toNat,List.mem_range.mpr (by lia),by lia⟩
theorem rg_nd (m:Int) (n:Nat):(rg m n).Nodup:=by
 unfold rg
 exact List.Pairwise.map (fun i:Nat=>m+1+(i:Int)) (fun a b h e=>h (by lia)) List.nodup_range
theorem ES.gd {S:Int→Prop} (h0:S 0) {hs:List Int} {tidy:Bool} {x:Sm} {m m':Int} {l:List LR} (h:ES hs tidy x m l m') (hS:∀ k,m < k→k≤m'→S k):Gd S l∧∃ n:Nat,m'=m+n∧labs l=rg m n:=by
 cases x with
 | set x=>
  have:=h.1.gd h0
  exact ⟨this.1,0,by have:=h.2;lia,this.2⟩
 | iff t y ns=>
  obtain ⟨ha,hm⟩:=h
  have:=ha.gd h0 (hS _ (by lia) (by lia)) (hS _ (by lia) (by lia)) (fun l q=>q.gd h0) (fun l q=>q.gd h0)
  exact ⟨this.1,2,by lia,this.2.trans (show [m+1,m+2]=[m+1+((0:Nat):Int),m+1+((1:Nat):Int)] by simp only [List.cons.injEq];refine ⟨by lia,by lia,trivial⟩)⟩
 | loop k y=>
  obtain ⟨b,hb,rfl,hm⟩:=h
  have hb:=hb.gd h0
  refine ⟨((Gd.op (by kernel_rfl) (.lab (.op (by kernel_rfl) (.jcc (hS _ (by lia) (by lia)) .nil)))).app hb.1).app (.op (by kernel_rfl) (.jmp (hS _ (by lia) (by lia)) (.lab .nil))),2,by lia,?_⟩
  rw [labs_app,labs_app,hb.2]
  exact (show [m+1,m+2]=[m+1+((0:Nat):Int),m+1+((1:Nat):Int)] by simp only [List.cons.injEq];refine ⟨by lia,by lia,trivial⟩)
theorem ES.le {hs:List Int} {tidy:Bool} {x:Sm} {m m':Int} {l:List LR} (h:ES hs tidy x m l m'):m≤m':=by
 cases x with
 | set x=>have:=h.2;lia
 | iff t y ns=>have:=h.2;lia
 | loop k y=>obtain ⟨b,hb,_,hm⟩:=h;lia
theorem ESs.le {hs:List Int} {tidy:Bool}:∀ {xs:List Sm} {m m':Int} {l:List LR},ESs hs tidy xs m l m'→m≤m'
 | [],m,m',l,h=>by have:=h.2;lia
 | x::xs,m,m',l,⟨a,m1,b,ha,hb,e⟩=>by have:=ha.le;have:=ESs.le hb;lia
theorem ESs.gd {S:Int→Prop} (h0:S 0) {hs:List Int} {tidy:Bool}:∀ {xs:List Sm} {m m':Int} {l:List LR},ESs hs tidy xs m l m'→(∀ k,m < k→k≤m'→S k)→Gd S l∧∃ n:Nat,m'=m+n∧labs l=rg m n
 | [],m,m',l,h,hS=>by rw [show l=[] from h.1];exact ⟨.nil,0,by have:=h.2;lia,rfl⟩
 | x::xs,m,m',l,⟨a,m1,b,ha,hb,e⟩,hS=>by
  subst e
  have l1:=ha.le
  have l2:=hb.le
  obtain ⟨g1,n1,e1,f1⟩:=ha.gd h0 fun k q1 q2=>hS k q1 (by lia)
  obtain ⟨g2,n2,e2,f2⟩:=ESs.gd h0 hb fun k q1 q2=>hS k (by lia) q2
  refine ⟨g1.app g2,n1+n2,by lia,?_⟩
  rw [labs_app,f1,f2,e1,rg_app]
@[reducible] noncomputable def allR (tidy:Bool) (v0 v1 v2 v3:BV) (ls las:List LR):List LR:=Pro tidy v0 v1 v2 v3++ls++HL++Fl tidy las
theorem all_gd {tidy:Bool} {v0 v1 v2 v3:BV} {ls las:List LR} {xs:List Sm} {f:Fn} {m' b:Int} (hs:ESs hs4 tidy xs 0 ls m') (ha:As [24,16] tidy f.t (Em [24,16] tidy f.y) (Em [24,16] tidy f.n) m' las):
  Uniq (allR tidy v0 v1 v2 v3 ls las)∧(∀ (i:Nat) x,(allR tidy v0 v1 v2 v3 ls las)[i]?=some x→x.isLab=false→(x.nmS==("":Str))=false) ∧
   ∀ (i:Nat) x k,(allR tidy v0 v1 v2 v3 ls las)[i]?=some x→x.tgt=some k→0≤k∧∃ v,mrk (allR tidy v0 v1 v2 v3 ls las) b (allR tidy v0 v1 v2 v3 ls las).length k=some v:=by
 have l0:=hs.le
 obtain ⟨_,n,e1,f1⟩:=hs.gd (S:=fun _=>True) trivial (fun _ _ _=>trivial)
 have gs:=(hs.gd (S:=fun k=>0≤k∧k≤m'+2) (by lia) (fun k q1 q2=>by lia)).1
 have ga:=ha.gd (S:=fun k=>0≤k∧k≤m'+2) (by lia) (by lia) (by lia) (fun l q=>q.gd (by lia)) (fun l q=>q.gd (by lia))
 have gp:Gd (fun k=>0≤k∧k≤m'+2) (Pro tidy v0 v1 v2 v3)∧labs (Pro tidy v0 v1 v2 v3)=[]:=by
  cases tidy<;>exact ⟨.op (by kernel_rfl) (.op (by kernel_rfl) (.op (by kernel_rfl) (.op (by kernel_rfl) (.op (by kernel_rfl) (.op (by kernel_rfl) (.op (by kernel_rfl) (.op (by kernel_rfl) (.op (by kernel_rfl) (.op (by kernel_rfl) (.op (by kernel_rfl) .nil)))))))))),rfl⟩
 have gl:Gd (fun k=>0≤k∧k≤m'+2) (Fl tidy las)∧labs (Fl tidy las)=[0,m'+1,m'+2]:=by
  unfold Fl
  refine ⟨((Gd.lab (.op (by kernel_rfl) (.op (by kernel_rfl) .nil))).app ga.1).app ?_,?_⟩
  ·cases tidy<;>exact .op (by kernel_rfl) (.op (by kernel_rfl) .nil)
  ·rw [labs_app,labs_app,ga.2]
   cases tidy<;>rfl
 have lab:labs (allR tidy v0 v1 v2 v3 ls las)=rg 0 n++[0,m'+1,m'+2]:=by
  rw [labs_app,labs_app,labs_app,gp.2,f1,gl.2,show labs HL=[] from rfl,List.nil_append,List.append_nil]
 have gd:Gd (fun k=>0≤k∧k≤m'+2) (allR tidy v0 v1 v2 v3 ls las):=((gp.1.app gs).app (.op (by kernel_rfl) (.op (by kernel_rfl) .nil))).app gl.1
 have nd:(labs (allR tidy v0 v1 v2 v3 ls las)).Nodup:=by
  rw [lab,List.nodup_append]
  refine ⟨rg_nd 0 n,?_,?_⟩
  ·simp only [List.nodup_cons,List.mem_cons,List.mem_nil_iff,or_false,not_or,not_false_eq_true,List.nodup_nil,and_true]
   lia
  ·intro a ha b hb
   have:=rg_mem.mp ha
   simp only [List.mem_cons,List.mem_nil_iff,or_false] at hb
   lia
 have un:=uniq_of nd
 refine ⟨un,fun i x h hx=>(gd x (List.mem_of_getElem? h)).1 hx,fun i x k h hk=>?_⟩
 obtain ⟨k0,k1⟩:=(gd x (List.mem_of_getElem? h)).2 k hk
 refine ⟨k0,?_⟩
 have hm:LR.lab k∈allR tidy v0 v1 v2 v3 ls las:=by
  rw [labs_mem,lab,List.mem_append,rg_mem]
  simp only [List.mem_cons,List.mem_nil_iff,or_false]
  lia
 obtain ⟨j,hj,e⟩:=List.getElem_of_mem hm
 have e':(allR tidy v0 v1 v2 v3 ls las)[j]?=some (.lab k):=by rw [List.getElem?_eq_getElem hj,e]
 exact ⟨_,mrk_get un hj e'⟩
end
section
set_option tactic.hygienic false
noncomputable def GB:Nat→Nat
 | 0=>1
 | d+1=>2*GB d+9
theorem GB_pos:∀ d,1≤GB d
 | 0=>Nat.le_refl 1
 | _+1=>Nat.le_add_left 1 _
theorem bud_t {m:Nat}:∀ {d:Nat} {t:Tr},t.wf m d→∀ v u,RB t v+PB t u≤v+u+GB d
 | d,.num _,_,v,u=>by have:=GB_pos d;show v+1+u≤_;lia
 | d,.var _,_,v,u=>by have:=GB_pos d;show v+1+u≤_;lia
 | 0,.neg _,h,_,_|0,.call ..,h,_,_|0,.two ..,h,_,_=>h.elim
 | d+1,.neg t,h,v,u=>by
  have:=bud_t (t:=t) (d:=d) h (v+1) u
  show RB t (v+1)+PB t u≤v+u+(2*GB d+9)
  lia
 | d+1,.call a b,h,v,u=>by
  have h1:=bud_t h.2.1 (RB b (v+3)+1) (PB b u)
  have h2:=bud_t h.2.2 (v+3) u
  show RB a (RB b (v+3)+1)+PB a (PB b u)≤v+u+(2*GB d+9)
  lia
 | d+1,.two _ a b,h,v,u=>by
  have h1:=bud_t h.1 (RB b (v+5)+1) (PB b (u+2))
  have h2:=bud_t h.2 (v+5) (u+2)
  show RB a (RB b (v+5)+1)+(PB a (PB b (u+2))+1)≤v+u+(2*GB d+9)
  lia
theorem bud_n:∀ {ns:List St1},(∀ x∈ns,x.wf 1)→∀ v u,RS ns v+PS ns u≤v+u+12*ns.length
 | [],_,_,_=>Nat.le_refl _
 | z::ns,h,v,u=>by
  have h1:RB z.t (RS ns v+1)+PB z.t (PS ns u)≤RS ns v+1+PS ns u+11:=bud_t (h z (.head _)).2 _ _
  have h2:=bud_n (fun y q=>h y (.tail _ q)) v u
  show RB z.t (RS ns v+1)+PB z.t (PS ns u)≤v+u+12*(ns.length+1)
  lia
theorem bud_s {x:Sm} (h:x.wf) (v u:Nat):RSm x v+PSm x u≤v+u+65:=by
 cases x with
 | set x=>
  have:=bud_t h.2 (v+1) u
  exact Nat.le_trans this (by show _+(31:Nat)≤_;lia)
 | iff t y ns=>
  obtain ⟨tw,yw,nl,nw⟩:=h
  have h1:RB y.t (v+1+1)+PB y.t u≤v+1+1+u+31:=bud_t yw.2 _ _
  have h2:=bud_n nw (RB y.t (v+1+1)+2) (PB y.t u)
  have h3:RB t.b (RS ns (RB y.t (v+1+1)+2)+2+2)+PB t.b (PS ns (PB y.t u)+1)≤RS ns (RB y.t (v+1+1)+2)+2+2+(PS ns (PB y.t u)+1)+1:=bud_t tw.2.2 _ _
  have h4:RB t.a (RB t.b (RS ns (RB y.t (v+1+1)+2)+2+2)+1)+PB t.a (PB t.b (PS ns (PB y.t u)+1))≤RB t.b (RS ns (RB y.t (v+1+1)+2)+2+2)+1+PB t.b (PS ns (PB y.t u)+1)+11:=bud_t tw.1 _ _
  show RB t.a (RB t.b (RS ns (RB y.t (v+1+1)+2)+2+2)+1)+PB t.a (PB t.b (PS ns (PB y.t u)+1))≤_
  lia
 | loop k y=>
  have:RB y.t (v+3+1)+PB y.t u≤v+3+1+u+11:=bud_t h.2.2 _ _
  show RB y.t (v+3+1)+4+PB y.t u≤_
  lia
theorem bud_f {f:Fn} (h:f.wf) (u:Nat):RF f+PF f u≤u+45:=by
 have h1:RB f.y 3+PB f.y u≤3+u+11:=bud_t h.2.1 _ _
 have h2:RB f.n (RB f.y 3+2)+PB f.n (PB f.y u)≤RB f.y 3+2+PB f.y u+11:=bud_t h.2.2 _ _
 have h3:RB f.t.b (RB f.n (RB f.y 3+2)+2+2)+PB f.t.b (PB f.n (PB f.y u)+1)≤RB f.n (RB f.y 3+2)+2+2+(PB f.n (PB f.y u)+1)+1:=bud_t h.1.2.2 _ _
 have h4:RF f+PF f u≤RB f.t.b (RB f.n (RB f.y 3+2)+2+2)+1+PB f.t.b (PB f.n (PB f.y u)+1)+11:=bud_t h.1.1 _ _
 lia
theorem bud_l:∀ {xs:List Sm},(∀ x∈xs,x.wf)→∀ v u,RSs xs v+PSs xs u≤v+u+65*xs.length
 | [],_,_,_=>Nat.le_refl _
 | x::xs,h,v,u=>by
  have h1:=bud_s (h x (.head _)) (RSs xs v) (PSs xs u)
  have h2:=bud_l (fun y q=>h y (.tail _ q)) v u
  show RSm x (RSs xs v)+PSm x (PSs xs u)≤v+u+65*(xs.length+1)
  lia
theorem bud_ok {f:Fn} {xs:List Sm} (fw:f.wf) (xw:∀ x∈xs,x.wf) (xl:xs.length≤2):RSs xs (RF f+5)+PSs xs (PF f 0)≤180:=by
 have h0:=bud_f fw 0
 have h1:=bud_l xw (RF f+5) (PF f 0)
 lia
theorem plain_ok (tidy:Bool) {f:Fn} {xs:List Sm} (v0 v1 v2 v3 b fr:BV) {ls las:List LR} {m':Int} (fw:f.wf) (xw:∀ x∈xs,x.wf) (xl:xs.length≤2) (hs:ESs [-8,-16,-24,-32] tidy xs 0 ls m') (ha:As [24,16] tidy f.t (Em [24,16] tidy f.y) (Em [24,16] tidy f.n) m' las)
  (lrs:List LR) (e:lrs=Pro tidy v0 v1 v2 v3++ls++HL++Fl tidy las) (hn:lrs.length≤300):
 (∀ (i:Nat) x,lrs[i]?=some x→x.isLab=false→(x.nmS==("":Str))=false)∧(∀ (i:Nat) x k,lrs[i]?=some x→x.tgt=some k→0≤k∧∃ v,mrk lrs (b.toNat:Int) lrs.length k=some v) ∧
 Run (fnd lrs (b.toNat:Int) lrs.length) 460 (upd (upd (fun _=>0) 4 32768#64) 5 fr) 0 0 0 0 (ld9 fun _=>none) b (fun R H=>R 4=32768#64∧R 5=fr∧Ag (ld9 fun _=>none) H 32768∧rd H 32760=fr∧(xs.foldl (doS f.sem) [v0,v1,v2,v3]).length=4∧∀ k:Nat,k < 4→rd H (32752 - 8*(k:Int))=(xs.foldl (doS f.sem) [v0,v1,v2,v3]).getD k 0):=by
 subst e
 obtain ⟨un,nm,tg⟩:=all_gd (v0:=v0) (v1:=v1) (v2:=v2) (v3:=v3) (b:=(b.toNat:Int)) hs ha
 refine ⟨nm,tg,?_⟩
 have L:=laid_of (b:=(b.toNat:Int)) un (Nat.le_trans hn (by decide))
 have r:=main_run (s:=⟨upd (upd (fun _=>0) 4 32768#64) 5 fr,0,0,0,0,ld9 fun _=>none⟩) L fw xw xl hs ha (Seg.all [] _) rfl
 have e0:BitVec.ofInt 64 (plc (Pro tidy v0 v1 v2 v3++ls++HL++Fl tidy las) (b.toNat:Int) 0)=b:=ofInt_self b
 exact Eq.mp (congrArg (fun x=>Run (fnd (Pro tidy v0 v1 v2 v3++ls++HL++Fl tidy las) (b.toNat:Int) _) 460 _ 0 0 0 0 _ x _) e0) r
end
section
open Builtin Builtin.ObjectAttr
set_option tactic.hygienic false
section
variable {Q:Bt} {n:Nat} {σ σ':St} {Φ:AV→St→Prop}
theorem WG.frz1 {j:Nat} {D:Addr} {l rest:List AV} (hc:TakeC σ D (.lst l) σ') (h:WG Q n j (.lst l::rest) σ' Φ):WG Q n j (.ref D::rest) σ Φ:=fun a ha A p vs G R I hv k=>by
 obtain ⟨v,vs,rfl,hv1,hr⟩:=vl_c hv
 obtain rfl:=v_ref hv1
 obtain ⟨W',x',I',hv'⟩:=Mine.freeze I hc rfl
 exact h a ha A ⟨W',p.s⟩ _ G R I' (.cons hv' (x'.VL hr)) fun σ'' q v d I'' y r φ=>k σ'' q v d I'' (x'.trans y) r φ
theorem WG.frz2 {j:Nat} {D:Addr} {d:AV} {l rest:List AV} (hc:TakeC σ D (.lst l) σ') (h:WG Q n j (d::.lst l::rest) σ' Φ):WG Q n j (d::.ref D::rest) σ Φ:=fun a ha A p vs G R I hv k=>by
 obtain ⟨v0,vs,rfl,hv0,h9⟩:=vl_c hv
 obtain ⟨v,vs,rfl,hv1,hr⟩:=vl_c h9
 obtain rfl:=v_ref hv1
 obtain ⟨W',x',I',hv'⟩:=Mine.freeze I hc rfl
 exact h a ha A ⟨W',p.s⟩ _ G R I' (.cons (x'.V hv0) (.cons hv' (x'.VL hr))) fun σ'' q v d I'' y r φ=>k σ'' q v d I'' (x'.trans y) r φ
end
theorem s_dfn {C:Cn} {sc:Scope} {σ:St} {ρ:Rho} (O:Cok C sc) {i:Nat} {s:Stmt} {pos:Pos} {P:Addr} {qn:Str} {K:Ks} {cl:List (Str × Addr)} (q:s=.FunctionDef (C.ns.getD i "") (prS s) (bdS s) [] none [] (scS s) none (C.ns.getD i "") pos) (T:TabAt C.Q C.env σ P qn) (hq:qualnameIn C.env (C.ns.getD i "") (C.ns.getD i "")=qn)
  (hd0:(prS s).defaults=[]) (hk0:(prS s).kw_defaults=[]) (ha:annTrees (prS s) none C.env=[]) (hfree:((scS s).names.all fun x=>x.2 != .free || ((C.cn.zip C.ca).lookup x.1).isSome)=true) (ecl:cloFor (scS s) (C.cn.zip C.ca)=cl) (hi:Nat.blt i ρ.length=true)
  (h:∀ f,K .next (ρ.set i (some (.ref f))) ((f,.fnc (prS s) (.stmts (bdS s)) (scS s) cl)::σ)):WS C.Q C.n C.env s ρ σ K:=
 (congrArg (fun x=>WS C.Q C.n C.env x ρ σ K) q).mpr (s_def O T hq hd0 hk0 ha hfree (by rw [hi,ecl];exact h))
section
variable {Q:Bt} {n:Nat} {σ:St} {Φ:AV→St→Prop}
theorem ld_oct (H:Int→Option B8):∀ (j:Nat),j≤9→∀ i:Nat,i < j→oct (ldN H j) (32768+(i:Int))=mint.getD i 0
 | 0,_,i,hi=>absurd hi (Nat.not_lt_zero i)
 | j+1,hj,i,hi=>by
  refine (oct_upd (by lia) (by lia) (by lia) (by lia)).trans ?_
  by_cases e:i=j
  ·subst e
   exact if_pos rfl
  ·rw [if_neg (by lia)]
   exact ld_oct H j (by lia) i (by lia)
end
end
section
open Builtin Builtin.ObjectAttr
set_option tactic.hygienic false
section
variable {Q:Bt} {n:Nat} {σ:St} {Φ:AV→St→Prop}
theorem k_mreadE {Q:Bt} {n:Nat} {σ:St} {Φ:AV→St→Prop} (X:Cx Q) {M Ha:Addr} {H:Int→Option B8} {z:Nat} {p:Int} {v:BV} (e:rd H p=v) (h:Φ (.int (v.toNat:Int)) ((M,.inst 49 [.ref Ha])::(Ha,.zd (held H) z)::σ)):
  WM Q (n+4) 49 3 [.ref M,.int p,.int 8] ((M,.inst 49 [.ref Ha])::(Ha,.zd (held H) z)::σ) Φ:=k_mread X (by rw [e];exact h)
theorem cs_neBs {Q:Bt} {σ:St} {K:Bool→Prop} {b:Array UInt8} (k:K false):CmpS Q σ .NotEq (.byt b) (.byt b) K:=cs_neB (by rw [bne_self_eq_false];exact k)
set_option maxHeartbeats 1000000 in
theorem law_D (X:Cx Q) {env:Env} {a:Ma} {pa fa L p1 p2 p3 hd:Addr} {f:Fn} {m:Int→Option (Row × Int)} {v0 v1 v2 v3 b fr:BV} {xs:List Sm} {sv mkv:AV} {R:Int→BV} {cf pf af zf sf of:Int} {H:Int→Option B8} {z' kz:Nat} {rp beg:Int} (E:EnvOk env (scS (st 124)) [("program",p1),("state",p2),("pen",p3)]) (fw:f.wf) (xw:∀ x∈xs,x.wf)
  (q:R 4=32768#64∧R 5=fr∧Ag (ld9 fun _=>none) H 32768∧rd H 32760=fr∧(xs.foldl (doS f.sem) [v0,v1,v2,v3]).length=4∧∀ k:Nat,k < 4→rd H (32752 - 8*(k:Int))=(xs.foldl (doS f.sem) [v0,v1,v2,v3]).getD k 0)
  (h:∀ σ',(∀ p∈tabs σ,p∈σ')→Φ (.bool true) σ'):
  runS (lawC Q (n+39) env p1 p2 p3) 88 true (drT 12 t124) [some sv,some (.lst (xs.map Sm.av)),some f.av,some (.ref hd),some (.int (b.toNat:Int)),some (.int (fr.toNat:Int)),some mkv,some (.ref fa)] (SC a R cf pf af zf sf of H z' rp beg true ((pa,.zd (progM m) kz)::(fa,.fnc (prS adv) (.stmts (bdS adv)) (scS adv) [("program",p1)])::(p1,.cel (some (.ref pa)))::(L,.lst [])::(hd,.lst (bvs [v0,v1,v2,v3]))::(p2,.cel (some (.ref a.S)))::tabs σ)) (retO (thn Φ)):=by
 obtain ⟨r4,r5,ag,rf,vl,rv⟩:=q
 k_call_by "go" 0
 refine WG.sel (σ':=(hd,.lst (bvs [v0,v1,v2,v3]))::SC a R cf pf af zf sf of H z' rp beg true ((p2,.cel (some (.ref a.S)))::tabs σ)) ?s1 ?_
 case s1=>exact .take (.there (.there (.there (.there (.there (.there (.there (.there (.there .here))))))))) (.take .here (.take .here (.take .here (.take .here (.take .here (.skip (.skip (.skip (.skip .refl)))))))))
 refine k_doN X (n:=n+23) fw xs (vs:=[v0,v1,v2,v3]) rfl xw ?_
 generalize List.foldl (doS f.sem) [v0,v1,v2,v3] xs=vs at vl rv ⊢
 k_call_by "go" 0
 have e4:(((R 4).toNat:Int) != 32768)=false:=by rw [r4];rfl
 have e5:(((R 5).toNat:Int) != (fr.toNat:Int))=false:=by rw [r5];exact bne_self_eq_false _
 refine br_f e4 ?_
 k_call_by "go" 0
 refine br_f e5 ?_
 k_call_by "go" 0
 refine WM.sel (σ':=(a.M,.inst 49 [.ref a.H])::(a.H,.zd (held H) z')::(hd,.lst (bvs vs))::(a.S,.inst 51 (sfs a rp beg true))::(p2,.cel (some (.ref a.S)))::tabs σ) ?s2 ?_
 case s2=>exact .take (.there (.there (.there (.there .here)))) (.take (.there (.there (.there (.there .here)))) (.take .here (.take .here (.skip (.skip (.take .here .refl))))))
 refine k_octets X (n:=n+34) (fun i hi=>?_) ?_
 ·rw [ag _ (by lia) (by lia)]
  exact ld_oct _ 9 (Nat.le_refl _) i hi
 k_call_by "go" 0
 refine cs_neBs (b:=mintB) ?_
 k_call_by "go" 0
 refine k_mreadE X (n:=n+35) rf ?_
 k_call_by "go" 0
 refine br_f (bne_self_eq_false _) ?_
 k_call_by "go" 0
 refine e_cmpr (F_t124.cok X E rfl) L_t124_4 rfl S_t124_4 ?_
 k_call_by "go" 0
 refine w_range ?_
 obtain ⟨w0,w1,w2,w3,rfl⟩:∃ w0 w1 w2 w3,vs=[w0,w1,w2,w3]:=len4 vl
 have q0:∀ p:Int,p=32752→rd H p=w0:=fun p e=>e▸rv 0 (by decide)
 have q1:∀ p:Int,p=32744→rd H p=w1:=fun p e=>e▸rv 1 (by decide)
 have q2:∀ p:Int,p=32736→rd H p=w2:=fun p e=>e▸rv 2 (by decide)
 have q3:∀ p:Int,p=32728→rd H p=w3:=fun p e=>e▸rv 3 (by decide)
 clear rv rf ag
 refine ⟨_,_,it_rng (hi:=4) (by decide),by decide,fun cenv=>?_⟩
 k_call_by "go" 0
 refine k_mreadE X (n:=n+35) (q0 _ (by decide)) ?_
 k_call_by "go" 0
 refine k_mreadE X (n:=n+35) (q1 _ (by decide)) ?_
 k_call_by "go" 0
 refine k_mreadE X (n:=n+35) (q2 _ (by decide)) ?_
 k_call_by "go" 0
 refine k_mreadE X (n:=n+35) (q3 _ (by decide)) ?_
 intro D
 k_call_by "go" 0
 refine cs_eqI (ns:=[(w0.toNat:Int),w1.toNat,w2.toNat,w3.toNat]) (ms:=[(w0.toNat:Int),w1.toNat,w2.toNat,w3.toNat]) (.head _) (.tail _ (.tail _ (.tail _ (.head _)))) ?_
 rw [decide_eq_true rfl]
 k_call_by "go" 0
 exact ⟨_,.refl,h _ (fun p hp=>.tail _ (.tail _ (.tail _ (.tail _ (.tail _ (.tail _ hp))))))⟩
end
section
variable {Q:Bt} {n:Nat} {σ:St} {Φ:AV→St→Prop}
set_option maxHeartbeats 1000000 in
theorem law_C (X:Cx Q) {env:Env} {p1 p2 p3 pn hd:Addr} {cells:List Int} {s g:Int} {f:Fn} {v0 v1 v2 v3:BV} {xs:List Sm} {sv:AV} (E:EnvOk env (scS (st 124)) [("program",p1),("state",p2),("pen",p3)]) (hcode:∃ c,env.code=.ref c∧CodeHd Q.hB c (tT 124)) (hq:env.qual=nmS (st 124)++".<locals>.")
  (fw:f.wf) (xw:∀ x∈xs,x.wf) (xl:xs.length≤2) (hp:Pen cells 400 s) (h:∀ σ',(∀ p∈tabs σ,p∈σ')→Φ (.bool true) σ'):
  runS (lawC Q (n+39) env p1 p2 p3) 96 true (drT 4 t124) [some sv,some (.lst (xs.map Sm.av)),some f.av,some (.ref hd),none,none,none,none] ((hd,.lst (bvs [v0,v1,v2,v3]))::(pn,.lst (penL cells s g))::(p1,.cel none)::(p2,.cel none)::(p3,.cel (some (.ref pn)))::tabs σ) (retO (thn Φ)):=by
 have bd:=bud_ok fw xw xl
 k_call_by "go" 0
 refine WG.sel (.take (.there .here) .refl) (k_pick X (by show 0 < 2;decide) (by show 2≤1000;decide) (u:=399) hp fun b hb s1 g1 hp=>?_)
 obtain ⟨b,rfl,b0,b1'⟩:∃ v:Int,b=.int v∧0≤v∧v < 2^64:=List.at_mem (P:=fun e=>∃ v:Int,e=.int v∧0≤v∧v < 2^64) (all1 ⟨_,rfl,by decide,by decide⟩ (all1 ⟨_,rfl,by decide,by decide⟩ all0)) hb
 obtain ⟨b,rfl⟩:=bv_of b0 b1'
 k_call_by "go" 0
 refine k_draw X (by decide) (by decide) hp fun fr s2 g2 fr0 fr1 hp=>?_
 obtain ⟨fr,rfl⟩:=bv_of fr0 fr1
 k_call_by "go" 0
 with_reducible refine Stop.ok ?_
 refine e_dct (F_t124.cok X E rfl) S_t124_2 (by kernel_rfl) ?_
 k_call_by "go" 0
 intro rw
 k_call_by "go" 0
 refine WG.sel (.take (.there .here) .refl) (k_draw X (by decide) (by decide) hp fun td s3 g3 _ _ hp=>?_)
 k_call_by "go" 0
 intro mk
 generalize decide (td=1)=tidy
 k_call_by "go" 0
 refine w_listL (by k_call_by "mem" 0) (by show 4≤1000;decide) fun D1=>?_
 k_call_by "go" 0
 refine WG.frz2 .here ?_
 refine WG.sel (σ':=MD mk rw pn [] 0 tidy cells s3 g3 ((tT 121,.tab compQ)::(tT 120,.tab laidQ)::(hd,.lst (bvs [v0,v1,v2,v3]))::(p1,.cel none)::(p2,.cel none)::(p3,.cel (some (.ref pn)))::(tT 124,.tab lawQ)::σ)) ?s1 ?_
 case s1=>exact .take .here (.take (.there .here) (.take .here (.take (.there (.there (.there (.there (.there .here))))) (.take (.there (.there (.there (.there (.there .here))))) .refl))))
 refine k_compiled X (n:=n+19) fw xw (u:=0) (hp.le (Nat.le_trans (Nat.le_add_left _ _) (Nat.le_trans bd (by decide)))) (Nat.le_trans (Nat.le_of_eq (Nat.zero_add _)) (Nat.le_trans (Nat.add_le_add_right (Nat.le_trans (Nat.le_add_right _ _) bd) 11) (by decide))) fun ls las m' s4 g4 es ea hp hr=>?_
 k_call_by "go" 0
 have hn:(Pro tidy v0 v1 v2 v3++ls++HL++Fl tidy las).length≤300:=by
  have:=hr
  rw [Rm,List.length_map] at this
  exact this
 obtain ⟨hok,hj,hrun⟩:=plain_ok tidy v0 v1 v2 v3 b fr fw xw xl es ea _ rfl hn
 generalize Pro tidy v0 v1 v2 v3++ls++HL++Fl tidy las=lrs at hn hok hj hrun ⊢
 refine WG.frz1 (l:=lrs.map LR.av) (.there .here) ?_
 refine k_program X (n:=n+29) (by lia) hok hj fun pa z hz=>?_
 k_call_by "go" 0
 refine k_State X (n:=n+35) fun a=>?_
 k_call_by "go" 0
 refine WM.sel (σ':=(a.M,.inst 49 [.ref a.H])::(a.H,.zd (held fun _=>none) 0)::(a.S,.inst 51 (sfs a (b.toNat:Int) 0 false))::(a.R,.lst (rl (upd (upd (fun _=>0) 4 32768#64) 5 fr)))::(a.F,.inst 24 (fl7 0 0 0 0 0 0))::(pa,.zd (progM (fnd lrs (b.toNat:Int) lrs.length)) z)::(hd,.lst (bvs [v0,v1,v2,v3]))::(p1,.cel (some (.ref pa)))::(p2,.cel (some (.ref a.S)))::tabs σ)
  (.take (.there (.there (.there .here))) (.take (.there (.there (.there .here))) (.take .here (.take .here (.take .here (.take .here (.skip (.skip (.take (.there (.there .here)) (.take (.there (.there .here)) (.take (.there (.there .here)) (.take (.there (.there (.there .here))) (.take .here (.take .here (.skip .refl))))))))))))))) ?_
 refine k_load X (n:=n+35) (by decide) ?_
 k_call_by "go" 0
 refine s_dfn (F_t124.cok X E rfl) (i:=7) (cl:=[("program",p1)]) S_t124_3 ⟨hcode,by k_call_by "mem" 0⟩ ?hqn rfl rfl rfl (by kernel_rfl) rfl (by kernel_rfl) fun fa=>?_
 case hqn=>
  have hk:env.kindOf ("_law_advance":Str)=some .local:=by
   show env.scope.names.lookup _=_
   rw [E.scp]
   rfl
  show qualnameIn env "_law_advance" "_law_advance"=lawQ
  unfold qualnameIn
  rw [hk,if_neg (by decide),hq]
  rfl
 k_call_by "go" 0
 intro L
 k_call_by "go" 0
 refine WG.sel (σ':=SC a (upd (upd (fun _=>0) 4 32768#64) 5 fr) 0 0 0 0 0 0 (ld9 fun _=>none) (0+9) (b.toNat:Int) 0 false ((pa,.zd (progM (fnd lrs (b.toNat:Int) lrs.length)) z)::(fa,.fnc (prS adv) (.stmts (bdS adv)) (scS adv) [("program",p1)])::(p1,.cel (some (.ref pa)))::(L,.lst [])::(hd,.lst (bvs [v0,v1,v2,v3]))::(p2,.cel (some (.ref a.S)))::tabs σ)) ?s2 ?_
 case s2=>exact .take (.there (.there (.there (.there .here)))) (.take (.there (.there (.there (.there .here)))) (.take (.there (.there (.there (.there .here)))) (.take (.there (.there .here)) (.take (.there (.there .here)) (.take (.there (.there .here)) (.take (.there .here) (.take (.there (.there .here)) (.take .here (.take .here (.take .here .refl))))))))))
 refine k_go X (rp:=b) (k:=460) (n:=n+24) (by decide) (by decide) hrun fun R cf pf af zf sf of H z' rp beg d q=>?_
 exact law_D X E fw xw q h
theorem k_law (X:Cx Q) {cells:List Int} (hz:cells.length≤63) (h:∀ σ',(∀ p∈tabs σ,p∈σ')→Φ (.bool true) σ'):WG Q (n+40) 124 [.lst (cells.map .int)] (tabs σ) Φ:=
 law_A X hz fun _ _ _ _ _ _ _ _ _ _ _ _ _ _ _ E hc hq fw xw xl hp=>law_C X E hc hq fw xw xl hp h
end
end
section
open Builtin Builtin.ObjectAttr
noncomputable def W0 (la:Addr) (o:Obj):Wd:=⟨fun b=>if b=la then some o else none,fun b=>if b=1203∨b=1210∨b=1231 then some b else none⟩
theorem inv0 {prog:Program} {w:World} {h:Heap} {K:Frag} {mg:Str→Option Value} {tb:List (Addr × Addr)} {la:Addr} {o:Obj} (hT:TabsAt tb h) (e:tb.map (·.2)=[1203,1210,1231]) (el:h.get? la=some o) (hn:o≠tabObj #[]):Inv ⟨prog,w,ghostOf h tb,K,mg⟩ (W0 la o) (tabs []) h:=by
 have tab:∀ P,P∈([1203,1210,1231]:List Addr)→h.get? P=some (tabObj #[]):=fun P hP=>by
  rw [← e] at hP
  obtain ⟨q,hq,rfl⟩:=List.mem_map.mp hP
  exact (hT q hq).2
 have apart:∀ P,P∈([1203,1210,1231]:List Addr)→la≠P:=fun P hP q=>by
  have:=tab P hP
  rw [← q,el] at this
  exact hn (Option.some.inj this)
 have ow:∀ a,a∉([1203,1210,1231]:List Addr)→(W0 la o).own a=none:=fun a ha=>by
  show (if a=1203∨a=1210∨a=1231 then some a else none)=none
  rw [if_neg (fun q=>ha (by simpa using q))]
 have own:∀ P,P∈([1203,1210,1231]:List Addr)→(W0 la o).own P=some P:=fun P hP=>by
  show (if P=1203∨P=1210∨P=1231 then some P else none)=some P
  rw [if_pos (by simpa using hP)]
 have cell:∀ P q,P∈([1203,1210,1231]:List Addr)→CellAt ⟨prog,w,ghostOf h tb,K,mg⟩ (W0 la o) h P (.tab q):=fun P q hP=>⟨#[],tab P hP,trivial,fun pos cv e=>(nomatch e),own P hP⟩
 refine ⟨fun a x q=>?_,fun a x q=>?_,fun a x q=>?_,fun p hp=>?_,by decide,fun a x q=>⟨of_hideAll _ q,?_⟩⟩
 ·have q:(if a=la then some o else none)=some x:=q
  by_cases ea:a=la
  ·rw [if_pos ea] at q
   cases q
   rw [ea];exact el
  ·rw [if_neg ea] at q;cases q
 ·have q:(if a=la then some o else none)=some x:=q
  by_cases ea:a=la
  ·subst ea
   exact ow a fun hP=>apart a hP rfl
  ·rw [if_neg ea] at q;cases q
 ·by_cases ha:a∈([1203,1210,1231]:List Addr)
  ·exact ⟨_,tab a ha⟩
  ·rw [ow a ha] at q;cases q
 ·simp only [tabs,List.mem_cons,List.mem_nil_iff,or_false] at hp
  rcases hp with rfl|rfl|rfl
  ·exact cell _ _ (by decide)
  ·exact cell _ _ (by decide)
  ·exact cell _ _ (by decide)
 ·refine ow a fun ha=>?_
  rw [← e] at ha
  have q:(hideAll _ _).get? _=some x:=q
  rw [hideAll_none _ ha] at q
  cases q
theorem walk_of {V:Program} {L:List Str} {XP:(Str→Option Value)→Heap→Prop} {d:DefRec} {kwd:List (Str × Expr)} (hn:d.name="law"):
  WalkO V L XP myHook.says PySem.Challenge.rw_nn0083_01.row.toRowW d kwd (fun f vs=>PySem.call f vs):=by
 intro w s₀ s₁ mg mb G Y a o pm cd doc dV kV ho hd hcd hD hmg hg args vals as hpre hlay hrd hwl hlo
 obtain ⟨la,vs,cells,rfl,el,hi,hz⟩:=args_of hpre hlay hrd hwl hlo
 obtain ⟨tb,K,hT,et,X⟩:=cx_of G.T Y
 rw [hn] at hmg
 have I:=inv0 (prog:=PySem.Challenge.rw_nn0083_01.row.toRowW.prog) (w:=w) (K:=K) (mg:=mg) hT et el (fun q=>by cases q)
 have hv:VL ⟨PySem.Challenge.rw_nn0083_01.row.toRowW.prog,w,ghostOf s₁.heap tb,K,mg⟩ (W0 la { cls:=.type "list",data:=.seq vs.toArray }).F [.ref la] [.lst (cells.map .int)]:=.cons (.lst (vs:=vs.toArray) (n:=0) (by show (if la=la then _ else _)=_;rw [if_pos rfl]) (by simpa using vl_ints hi)) .nil
 refine wpAny_mono (k_law (X PySem.Challenge.rw_nn0083_01.row.toRowW.prog w) (n:=0) (σ:=[]) (Φ:=fun d σ'=>d=.bool true∧∀ p∈tabs [],p∈σ') hz (fun σ' q=>⟨rfl,q⟩) a hmg callerA ⟨_,s₁⟩ _ (fun v s'=>∃ (q:Po),q.s=s'∧v=.bool true∧(∃ σ',Inv _ q.W σ' s'.heap∧∀ p∈tabs [],p∈σ')∧Bh none ⟨W0 la _,s₁⟩ q) ⟨rfl,by decide,by decide⟩ I hv fun σ' q v d I' x r hφ=>⟨q,rfl,by obtain ⟨rfl,_⟩:=hφ;cases r;rfl,⟨σ',I',hφ.2⟩,x⟩) (fun v s' ⟨q,e,ev,⟨σ',I',hm⟩,x⟩=>?_) fun _ _ z=>z.elim
 subst ev e
 have tabK:∀ P,P∈([1203,1210,1231]:List Addr)→∃ ps,q.s.heap.get? P=some (tabObj ps):=fun P hP=>by
  have key:∀ P q',(P,Cell.tab q')∈tabs []→∃ ps,q.s.heap.get? P=some (tabObj ps):=fun P q' hp=>by
   obtain ⟨ps,e,_⟩:=I'.cells _ (hm _ hp)
   exact ⟨ps,e⟩
  simp only [List.mem_cons,List.mem_nil_iff,or_false] at hP
  rcases hP with rfl|rfl|rfl
  ·exact key 1203 laidQ (.tail _ (.tail _ (.head _)))
  ·exact key 1210 compQ (.tail _ (.head _))
  ·exact key 1231 lawQ (.head _)
 have keep:∀ b ob,b∉([1203,1210,1231]:List Addr)→s₁.heap.get? b=some ob→q.s.heap.get? b=some ob:=fun b ob hb e=>by
  refine (x.un b ob ?_ e).2.2.2 nofun
  show (if b=1203∨b=1210∨b=1231 then some b else none)=none
  rw [if_neg (fun q=>hb (by simpa using q))]
 refine ⟨.inl ⟨.bool true,.bool true,[],rfl,fun _=>rfl,.bool true,?_,fun _=>⟨List.nodup_nil,nofun⟩⟩,⟨fun b ob e=>?_,fun b ob e=>?_⟩,x.os,.of_eq (x.gens.trans hg)⟩
 ·first|rfl|wrow_post
 ·by_cases hb:b∈([1203,1210,1231]:List Addr)
  ·obtain ⟨ps,hP⟩:=tabK b hb
   have hb':=hb
   rw [← et] at hb'
   obtain ⟨q,hq,rfl⟩:=List.mem_map.mp hb'
   have e2:=(hT q hq).2
   rw [e] at e2
   obtain rfl:=Option.some.inj e2
   exact .inr (.inl ⟨((hT q hq).1.tab (hT q hq).2).isCodeTable,rfl,#[],ps,rfl,by rw [Array.empty_append];exact hP⟩)
  ·exact .inl (keep b ob hb e)
 ·by_cases hb:b∈([1203,1210,1231]:List Addr)
  ·obtain ⟨ps,hP⟩:=tabK b hb
   exact ⟨_,hP⟩
  ·exact ⟨ob,keep b ob hb e⟩
end
end Mine
theorem PySem.Challenge.cw_nn0083_01_holds : PySem.Challenge.rw_nn0083_01.Holds :=
 Mine.myHead fun V L XP d kwd hn=>Mine.walk_of hn
