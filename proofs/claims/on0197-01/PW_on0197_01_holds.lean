import PyProof.Rows.All
import Wide.All
import OpenK.AllK
import Wide.FinOn
import KE.KLam
import KE.KNest
import PySem.Challenge.RW_on0197_01
open PySem PySem.W PyProof.Rows
set_option Elab.async false
set_option autoImplicit false
set_option genSizeOf false
set_option genInjectivity false
set_option maxRecDepth 100000
set_option bootstrap.genMatcherCode false
set_option backward.match.sparseCases false
set_option backward.linearNoConfusionType false
namespace Mine
noncomputable section
abbrev SS := List (Str × Str)
noncomputable abbrev Q_ (s:String):Str:=Str.ofString s
inductive RK where
 |row|rowd|ch|att|nss
inductive Part where
 |root|rootd|rows
 |of (i:Nat) (k:RK)
inductive AV where
 |val (v:Value)
 |int (i:Int)
 |str (s:Str)
 |loc (n:Nat) (p:Part)
 |tup (xs:List AV)
 |lst (xs:List AV)

noncomputable abbrev AV.none:AV:=.val .none
noncomputable def listB:List Nat→List Nat→Bool
 |[],bs=>match bs with
   |[]=>true
   |_::_=>false
 |a::as,bs=>match bs with
   |[]=>false
   |b::bs=>Nat.beq a b&&listB as bs
noncomputable def strB (a b:Str):Bool:=listB a.cps.toList b.cps.toList

structure FnD where
  qual:Str
  args:Arguments
  dflts:List AV
  body:List Stmt
  scope:Scope

noncomputable def cap:Nat:=1000000
noncomputable def okS (s:Str):Bool:=s.cps.toList.all (fun c=>Nat.blt c 1114112)&&Nat.ble s.length 16777216

noncomputable def flat:AV→Bool
 |.val _=>true
 |.int _=>true
 |.str _=>true
 |_=>false
noncomputable def pyBody:List Stmt:=PySem.Challenge.pw_on0197_01.main.body
noncomputable def pick (path:List Nat):List Stmt→Option (Arguments×List Stmt×Scope):=path.rec (fun _=>none) fun i _ r ss=>(ss[i]?).bind fun s=>match s with
 |.FunctionDef _ a b _ _ _ sc _ _ _=>some (a,b,sc)
 |.ClassDef _ _ _ b _ _ _ _ _ _ _=>r b
 |_=>none
noncomputable def lookN {α:Type} (x:Nat):List (Nat×α)→Option α
 |[]=>none
 |p::r=>bif Nat.beq x p.1 then some p.2 else lookN x r
noncomputable def fnTab:List (Nat×List Nat×String×List AV):=[
  (686,[44],"_law_take",[]),
  (157,[19],"split_name",[]),
  (35,[2,0],"MarkupError.__init__",[]),
  (115,[13],"is_small_letter",[]),
  (122,[14],"is_name_start",[]),
  (129,[15],"is_name_char",[]),
  (136,[16],"is_nmtoken",[]),
  (143,[17],"is_name",[]),
  (150,[18],"is_ncname",[]),
  (679,[43],"_law_pool",[]),
  (742,[54],"_law_refused",[]),
  (749,[55],"law",[]),
  (108,[12],"is_space",[]),
  (164,[20],"space_split",[]),
  (171,[23],"lines_down",[]),
  (178,[24],"scope_of",[]),
  (186,[27],"attribute_of",[.str (Str.ofString "")]),
  (193,[29],"excluded_uris",[]),
  (200,[30],"alias_of",[]),
  (205,[31],"told_scope",[]),
  (212,[32],"tell_scope",[]),
  (226,[35,0],"Result.__init__",[]),
  (233,[35,1],"Result.here",[]),
  (247,[35,3],"Result.settle",[]),
  (254,[35,4],"Result.child_comes",[]),
  (261,[35,5],"Result.start",[]),
  (282,[35,8],"Result.bound_uri",[]),
  (289,[35,9],"Result.bind",[]),
  (294,[35,10],"Result.is_bound_here",[]),
  (299,[35,11],"Result.is_taken",[]),
  (306,[35,12],"Result.namespace",[]),
  (327,[35,15],"Result.check_ahead",[]),
  (384,[38,0],"NodeRow.__init__",[]),
  (405,[39,0],"Tree.__init__",[]),
  (412,[39,1],"Tree.new_row",[]),
  (419,[39,2],"Tree.row",[]),
  (426,[39,3],"Tree.new_root",[]),
  (433,[39,4],"Tree.add_child",[]),
  (440,[39,5],"Tree.add_element",[]),
  (468,[39,9],"Tree.element_row",[]),
  (475,[39,10],"Tree.set_attribute",[]),
  (482,[39,11],"Tree.add_namespace",[]),
  (496,[39,13],"Tree.kind",[]),
  (503,[39,14],"Tree.name",[]),
  (510,[39,15],"Tree.uri",[]),
  (517,[39,16],"Tree.local",[]),
  (524,[39,17],"Tree.value",[]),
  (531,[39,18],"Tree.parent",[]),
  (545,[39,20],"Tree.attributes",[]),
  (552,[39,21],"Tree.namespaces",[]),
  (595,[41,0],"Frame.__init__",[.none,.none]),
  (693,[45],"_law_one",[]),
  (701,[47],"_law_sheet",[]),
  (708,[48],"_law_scope",[]),
  (713,[49],"_law_left_out",[]),
  (718,[50],"_law_gone",[]),
  (723,[51],"_law_due",[]),
  (730,[52],"_law_state",[]),
  (735,[53],"_law_told_right",[])]
noncomputable def fnAt (f:Addr):Option FnD:=(lookN f fnTab).bind fun p=>(pick p.1 pyBody).map fun q=>⟨Str.ofString p.2.1,q.1,p.2.2,q.2.1,q.2.2⟩
noncomputable def globTab:List (Str×AV):=[
  (Str.ofString "SPACES",.str ⟨#[32,9,10,13]⟩),
  (Str.ofString "XML_URI_order",.str (Str.ofString "http://www.w3.org/XML/1998/namespace")),
  (Str.ofString "XML_URI_result",.str (Str.ofString "http://www.w3.org/XML/1998/namespace")),
  (Str.ofString "XSLT",.str (Str.ofString "http://www.w3.org/1999/XSL/Transform")),
  (Str.ofString "PARENTS",.tup ([.str (Str.ofString "root"),.str (Str.ofString "element")])),
  (Str.ofString "_law_uris",.lst ([.str (Str.ofString "u:1"),.str (Str.ofString "u:2"),.str (Str.ofString "u:3")])),
  (Str.ofString "is_space",.val (.ref 108)),(Str.ofString "split_name",.val (.ref 157)),(Str.ofString "space_split",.val (.ref 164)),(Str.ofString "lines_down",.val (.ref 171)),(Str.ofString "scope_of",.val (.ref 178)),(Str.ofString "attribute_of",.val (.ref 186)),(Str.ofString "excluded_uris",.val (.ref 193)),(Str.ofString "alias_of",.val (.ref 200)),(Str.ofString "told_scope",.val (.ref 205)),(Str.ofString "tell_scope",.val (.ref 212)),
  (Str.ofString "Result",.val (.ref 365)),(Str.ofString "NodeRow",.val (.ref 387)),(Str.ofString "Tree",.val (.ref 576)),(Str.ofString "Frame",.val (.ref 668)),
  (Str.ofString "is_small_letter",.val (.ref 115)),(Str.ofString "is_name_start",.val (.ref 122)),(Str.ofString "is_name_char",.val (.ref 129)),(Str.ofString "is_nmtoken",.val (.ref 136)),(Str.ofString "is_name",.val (.ref 143)),(Str.ofString "is_ncname",.val (.ref 150)),(Str.ofString "FIRST_BEYOND",.int 128),
  (Str.ofString "SheetFault",.val (.ref 75)),(Str.ofString "_law_refused",.val (.ref 742)),(Str.ofString "law",.val (.ref 749)),
  (Str.ofString "_law_pool",.val (.ref 679)),(Str.ofString "_law_take",.val (.ref 686)),(Str.ofString "_law_one",.val (.ref 693)),(Str.ofString "_law_sheet",.val (.ref 701)),(Str.ofString "_law_scope",.val (.ref 708)),(Str.ofString "_law_left_out",.val (.ref 713)),(Str.ofString "_law_gone",.val (.ref 718)),(Str.ofString "_law_due",.val (.ref 723)),(Str.ofString "_law_state",.val (.ref 730)),(Str.ofString "_law_told_right",.val (.ref 735)),
  (Str.ofString "len",.val (.builtin "len")),(Str.ofString "sorted",.val (.builtin "sorted")),(Str.ofString "max",.val (.builtin "max")),(Str.ofString "ord",.val (.builtin "ord")),(Str.ofString "Exception",.val (.type "Exception")),(Str.ofString "int",.val (.type "int")),(Str.ofString "list",.val (.type "list")),(Str.ofString "str",.val (.type "str")),(Str.ofString "dict",.val (.type "dict")),(Str.ofString "range",.val (.type "range")),(Str.ofString "enumerate",.val (.type "enumerate")),(Str.ofString "zip",.val (.type "zip"))]

noncomputable def rowFields:List Str:=[Str.ofString "kind",Str.ofString "name",Str.ofString "uri",Str.ofString "local",Str.ofString "value",Str.ofString "parent",Str.ofString "children",Str.ofString "attributes",Str.ofString "namespaces"]
noncomputable def fieldTab:List (Nat×List Str):=[
  (365,[Str.ofString "tree",Str.ofString "root",Str.ofString "open",Str.ofString "has_children",Str.ofString "pending"]),
  (387,rowFields),
  (576,[Str.ofString "rows"]),
  (668,[Str.ofString "outer",Str.ofString "params",Str.ofString "own",Str.ofString "work",Str.ofString "result",Str.ofString "tree",Str.ofString "scopes",Str.ofString "sheet",Str.ofString "aliases"])]

noncomputable def methTab:List (Nat×List (Str×Nat)):=[
  (365,[(Str.ofString "here",233),(Str.ofString "settle",247),(Str.ofString "child_comes",254),(Str.ofString "start",261),(Str.ofString "bound_uri",282),(Str.ofString "bind",289),(Str.ofString "is_bound_here",294),(Str.ofString "is_taken",299),(Str.ofString "namespace",306),(Str.ofString "check_ahead",327)]),
  (576,[(Str.ofString "new_row",412),(Str.ofString "row",419),(Str.ofString "new_root",426),(Str.ofString "add_child",433),(Str.ofString "add_element",440),(Str.ofString "element_row",468),(Str.ofString "set_attribute",475),(Str.ofString "add_namespace",482),(Str.ofString "kind",496),(Str.ofString "name",503),(Str.ofString "uri",510),(Str.ofString "local",517),(Str.ofString "value",524),(Str.ofString "parent",531),(Str.ofString "attributes",545),(Str.ofString "namespaces",552)])]

noncomputable def initTab:List (Nat×Nat):=[(365,226),(387,384),(576,405),(668,595)]

noncomputable def topRunT (tb:String→Option Builtin) (p:Program) (w:World) (n₀:Nat) (ann:Option Value):Nat→SharedT→Thread→Option SharedT
 |0,_,_=>none
 |n+1,s,t=>match through t with
   |true=>some s
   |false=>match Fast.tw6613529449190102663 n₀ ann t with
     |false=>none
     |true=>match Fast.tw10156331382660048174 (Fast.tw11892475500146522536 tb) p w s t with
       |some (s',t')=>topRunT tb p w n₀ ann n s' t'
       |none=>none
noncomputable def insAll:Nat→List Obj→BT→BT
 |_,[],t=>t
 |i,o::r,t=>insAll (i+1) r (t.ins i o)
noncomputable def P0:Program:=PySem.Challenge.rw_on0197_01.row.toRowW.prog
noncomputable def q1:Program:=PySem.W.view P0 [55]
noncomputable def loose1:List Str:=(P0.boundNames.filter fun x=>!(x==Str.ofString "law"))
noncomputable def dFunc (d:Data):Option {fd:FuncData // d=.func fd}:=match d with
 |.func fd=>some ⟨fd,rfl⟩
 |_=>none
noncomputable def dFields (d:Data):Option {vs:Array Value // d=.fields vs}:=match d with
 |.fields vs=>some ⟨vs,rfl⟩
 |_=>none
noncomputable def vStr (v:Value):Option {s:Str // ∃ t,v=.str s t}:=match v with
 |.str s t=>some ⟨s,t,rfl⟩
 |_=>none
noncomputable def vRef (v:Value):Option {a:Addr // v=.ref a}:=match v with
 |.ref a=>some ⟨a,rfl⟩
 |_=>none
noncomputable def fdIn (K:Frag) (f:Addr):Option FuncData:=(K.lookup f).bind fun o=>(dFunc o.data).map (·.1)
noncomputable def isStrV (q:Str) (v:Option Value):Bool:=v.elim false fun u=>(vStr u).elim false fun s=>strB s.1 q
noncomputable def nameIn (K:Frag) (cd:Value):Option Value:=(vRef cd).bind fun c=>(K.lookup c.1).bind fun o=>(dFields o.data).bind fun vs=>vs.1[1]?
noncomputable def dflV (f:Addr):List Value:=bif Nat.beq f 186 then [.str (Str.ofString "") 420] else bif Nat.beq f 595 then [.none,.none] else []
noncomputable def pnames (d:FnD):List Str:=d.args.args.map (·.arg)
noncomputable def arities (d:FnD):List Nat:=List.range' ((pnames d).length - d.dflts.length) (d.dflts.length+1)
noncomputable def given (m:Nat) (v:Nat→Value):List Value:=(List.range m).map v
noncomputable abbrev FnSeen:=Str×FuncBody×Scope×Addr×List (Str×Addr)×Addr×Bool×(Setting→(Nat→Value)→List (Option (List (Str×Value))))
noncomputable def fnSeen (K:Frag) (f:Addr) (ar:List Nat):Option FnSeen:=(fdIn K f).map fun fd=>
  (fd.qualname,fd.body,fd.scope,fd.globals,fd.closure,fd.builtins,isStrV fd.qualname (nameIn K fd.code),fun S v=>ar.map fun m=>peek K S (bindArgs fd ⟨given m v,[]⟩))
noncomputable def fnDue (f:Addr) (d:FnD):FnSeen:=
  (d.qual,.stmts d.body,d.scope,mainGlobals,[],builtinsNs,true,fun _ v=>(arities d).map fun m=>some ((pnames d).zip (given m v++(dflV f).drop (m+d.dflts.length - (pnames d).length))))
noncomputable def dflOk:List AV→List Value→Bool
 |[],vs=>vs.isEmpty
 |x::xs,vs=>match vs with
   |[]=>false
   |v::vs=>(match x with
     |.str s=>isStrV s (some v)&&okS s
     |.val w=>decide (w=.none)&&decide (v=.none)
     |_=>false)&&dflOk xs vs
noncomputable def isRef (a:Nat) (o:Option (Option Value)):Bool:=decide (o=some (some (.ref a)))
noncomputable def isBlt (id:String) (o:Option (Option Value)):Bool:=decide (o=some (some (.builtin id)))
noncomputable def isNon (o:Option (Option Value)):Bool:=decide (o=some none)
noncomputable def fieldChk (K:Frag) (C:Addr) (x:Str):Bool:=(match findIn K (.ref C) x with
 |some a=>noGet K a
 |none=>false)&&isNon (takerIn K C x)
noncomputable def methChk (K:Frag) (C:Addr) (p:Str×Nat):Bool:=isRef p.2 (findIn K (.ref C) p.1)&&isFn K (.ref p.2)
noncomputable def clsChk (K:Frag) (C:Addr):Bool:=plainGet K C (Str.ofString "")&&hasDictIn K C&&isBlt "object.__setattr__" (findIn K (.ref C) "__setattr__")&&plainOver K C &&
  ((lookN C fieldTab).getD []).all (fieldChk K C)&&((lookN C methTab).getD []).all (methChk K C)
noncomputable def initChk (K:Frag) (p:Nat×Nat):Bool:=makesIn K p.1&&isRef p.2 (findIn K (.ref p.1) "__init__")&&isFn K (.ref p.2)
noncomputable def bltIs (v:Value) (o:Option Value):Bool:=decide (o=some v)
noncomputable def dSeq (o:Obj):Option {q:String×Array Value×Nat // o={ cls:=.type q.1,data:=.seq q.2.1 q.2.2 }}:=match o with
 |⟨.type d,none,.seq items k,⟨[]⟩⟩=>some ⟨(d,items,k),rfl⟩
 |_=>none
noncomputable def strsIn (K:Frag) (c:String) (v:Option (Option Value)) (xs:List AV):Bool:=v.elim false fun v=>v.elim false fun v=>(vRef v).elim false fun a=>(K.lookup a.1).elim false fun o=>(dSeq o).elim false fun q=>
  decide (q.1.1=c)&&xs.all flat&&dflOk xs q.1.2.1.toList&&Nat.ble xs.length cap
noncomputable def vInt (v:Value):Option {i:Int // ∃ t,v=.int i t}:=match v with
 |.int i t=>some ⟨i,t,rfl⟩
 |_=>none
noncomputable def globChk (K:Frag) (p:Str×AV):Bool:=match p.2 with
 |.val v=>bltIs v ((nsIn K mainGlobals p.1).bind id)||(isNon (nsIn K mainGlobals p.1)&&bltIs v (bootBuiltins p.1)&&!strB p.1 (Str.ofString "__name__"))
 |.str s=>(nsIn K mainGlobals p.1).elim false fun o=>isStrV s o&&okS s
 |.int i=>(nsIn K mainGlobals p.1).elim false fun o=>o.elim false fun v=>(vInt v).elim false fun j=>decide (j.1=i)
 |.tup xs=>strsIn K "tuple" (nsIn K mainGlobals p.1) xs
 |.lst xs=>strsIn K "list" (nsIn K mainGlobals p.1) xs
 |.loc _ _=>false
noncomputable def clsL:List Nat:=[365,387,576,668]
noncomputable def tabChk (K:Frag):Bool:=clsL.all (clsChk K)&&initTab.all (initChk K)&&globTab.all (globChk K)
noncomputable def tabSeen (K:Frag):List (Option FnSeen):=fnTab.map fun p=>(fnAt p.1).bind fun d=>fnSeen K p.1 (arities d)
noncomputable def tabDue:List (Option FnSeen):=fnTab.map fun p=>(fnAt p.1).map fun d=>fnDue p.1 d
noncomputable abbrev bmE:List Value:=[.type "Exception",.type "BaseException",.type "object"]
noncomputable abbrev mroE:List Value:=.ref 38::bmE
noncomputable def asCls (d:Data):Option {cd:ClassData // d=.cls cd}:=match d with
 |.cls cd=>some ⟨cd,rfl⟩
 |_=>none
noncomputable def excOk:Option Obj→Bool
 |some o=>decide (o.cls=.type "type")&&decide (o.slots=#[o.slots.getD 0 none,o.slots.getD 1 none,o.slots.getD 2 none,o.slots.getD 3 none,some (.builtin "Exception.__new__"),o.slots.getD 5 none])&&(asCls o.data).elim false (fun cd=>decide (cd.1.mro=.ref 75::mroE)&&cd.1.hasDict&&!cd.1.hasDel)
 |none=>false
noncomputable def exChk (K:Frag):Bool:=excOk (K.lookup 75)&&isBlt "object.__setattr__" (findIn K (.ref 75) "__setattr__")&&isRef 35 (findIn K (.ref 75) "__init__")&&isNon (takerIn K 75 "message")&&isFn K (.ref 35)
noncomputable def kAddrs:List Nat:=[3,365,364,387,386,576,575,668,667,38,37,75,74,370,694,179,588,0,2]++fnTab.flatMap fun p=>[p.1,p.1 - 1]
noncomputable def getT (s:SharedT) (a:Nat):Option Obj:=bif Nat.blt a s.n then alive ((s.tree.get a).getD default) else none
noncomputable def fragT (s:SharedT):Frag:=kAddrs.filterMap fun a=>(getT s a).map fun o=>(a,o)
noncomputable def fragK (h:Heap):Frag:=kAddrs.filterMap fun a=>(h.get? a).map fun o=>(a,o)
noncomputable def tab749 (K:Frag):Bool:=match tabIn K (Str.ofString "law") with
 |some (c,P)=>Nat.beq c 748&&Nat.beq P 744
 |none=>false
noncomputable def allChk (K:Frag):Bool:=tabChk K&&exChk K&&tab749 K
noncomputable def runS (w:World) (os:OsState):Option SharedT:=topRunT Fast.tw14364793385576792824 P0 w 11 (some (.ref 6)) 10000 ⟨insAll 0 (boot_heap w.params).objs.toList .nil,11,(boot_heap w.params).life,#[],boot_drawn,boot_toks,os⟩ (topStub P0)
noncomputable def seeS (w:World) (s:Shared):=((staticsOk (importedModules P0.main.body) (boot_heap w.params) s.heap&&namesBound P0 s.heap&&gensDone s&&laidKept (boot_heap w.params) s.heap),
  openSeen q1 loose1 (importedModules P0.main.body) (fun s=>xlAt q1 [] s&&recOk [] s) true s,allChk (fragK s.heap),tabSeen (fragK s.heap))
noncomputable def seeT (w:World) (r:SharedT):=((staticsOk (importedModules P0.main.body) (boot_heap w.params) r.abs.heap&&namesBound P0 r.abs.heap&&gensDone r.abs&&laidKept (boot_heap w.params) r.abs.heap),
  Fast.tw4187177175401517315 q1 loose1 (importedModules P0.main.body) (fun s=>xlAt q1 [] s&&recOk [] s) true r.abs,allChk (fragT r),tabSeen (fragT r))
set_option maxRecDepth 1000000 in
set_option maxHeartbeats 80000000 in
theorem e8:∀ (w:World) (os:OsState),(runS w os).map (seeT w)=some (true,openGood q1 loose1,true,tabDue):=fun w os=>by kernel_rfl
noncomputable abbrev Part.row (i:Nat):Part:=.of i .row
noncomputable abbrev Part.rowd (i:Nat):Part:=.of i .rowd
noncomputable abbrev Part.ch (i:Nat):Part:=.of i .ch
noncomputable abbrev Part.att (i:Nat):Part:=.of i .att
noncomputable abbrev Part.nss (i:Nat):Part:=.of i .nss
noncomputable abbrev AV.bool (b:Bool):AV:=.val (.bool b)
noncomputable abbrev AV.nat (k:Nat):AV:=.int (Int.ofNat k)
noncomputable abbrev L0:AV:=.loc 0 .root
noncomputable abbrev L1:AV:=.loc 1 .root
noncomputable abbrev L2:AV:=.loc 2 .root
noncomputable abbrev L3:AV:=.loc 3 .root
noncomputable abbrev L4:AV:=.loc 4 .root
noncomputable abbrev L5:AV:=.loc 5 .root
noncomputable abbrev L6:AV:=.loc 6 .root
noncomputable abbrev L7:AV:=.loc 7 .root
noncomputable abbrev L8:AV:=.loc 8 .root
noncomputable abbrev L9:AV:=.loc 9 .root
noncomputable abbrev L10:AV:=.loc 10 .root
noncomputable abbrev L11:AV:=.loc 11 .root
noncomputable abbrev L12:AV:=.loc 12 .root
noncomputable abbrev L13:AV:=.loc 13 .root
noncomputable abbrev L14:AV:=.loc 14 .root
noncomputable abbrev L15:AV:=.loc 15 .root
noncomputable abbrev L16:AV:=.loc 16 .root
noncomputable abbrev L17:AV:=.loc 17 .root
noncomputable abbrev L18:AV:=.loc 18 .root
noncomputable abbrev L19:AV:=.loc 19 .root
structure Row where
 kind:Str
 name:Str
 uri:Str
 loc:Str
 value:Str
 par:Option Nat
 ch:List Nat
 at_:List Nat
 ns:List Nat
inductive AObj where
|list (xs:List AV)
|txs (l:List Str)
|ixs (l:List Nat)
|prs (l:SS)
|dss (l:SS)
|dictI (es:List (Int×AV))
|inst (C:Addr) (fs:List (Str×AV))
|tree (t:List Row)
|src (x y:Int)
|dead
inductive PObj where
|list (xs:List AV)
|dictS (es:SS)
|dictI (es:List (Int×AV))
|inst (C:Addr) (d:Part)
|nsd (fs:List (Str×AV))
|src (x y:Int)
noncomputable abbrev Vars:=List (Str×AV)
noncomputable abbrev Hp:=List AObj
inductive Fl where
|next
|ret (v:AV)
noncomputable def look {α:Type} (x:Str):List (Str×α)→Option α
|[]=>none
|p::r=>bif strB x p.1 then some p.2 else look x r
noncomputable def setL {α:Type} (x:Str) (v:α):List (Str×α)→List (Str×α)
|[]=>[(x,v)]
|p::r=>bif strB x p.1 then (p.1,v)::r else p::setL x v r
noncomputable def delL {α:Type} (x:Str):List (Str×α)→List (Str×α)
|[]=>[]
|p::r=>bif strB x p.1 then r else p::delL x r
noncomputable def lookI {α:Type} (x:Int):List (Int×α)→Option α
|[]=>none
|p::r=>if x=p.1 then some p.2 else lookI x r
noncomputable def setI {α:Type} (x:Int) (v:α):List (Int×α)→List (Int×α)
|[]=>[(x,v)]
|p::r=>if x=p.1 then (p.1,v)::r else p::setI x v r
noncomputable def C_Tree:Addr:=576
noncomputable def C_Row:Addr:=387
noncomputable def parV:Option Nat→AV
|.none=>.none
|.some k=>.nat k
noncomputable def rowFs (n i:Nat) (r:Row):List (Str×AV):=
 [(Str.ofString "kind",.str r.kind),(Str.ofString "name",.str r.name),(Str.ofString "uri",.str r.uri),(Str.ofString "local",.str r.loc),(Str.ofString "value",.str r.value),
  (Str.ofString "parent",parV r.par),(Str.ofString "children",.loc n (.ch i)),(Str.ofString "attributes",.loc n (.att i)),(Str.ofString "namespaces",.loc n (.nss i))]
noncomputable def intsAV (l:List Nat):List AV:=l.map AV.nat
noncomputable def strsAV (l:List Str):List AV:=l.map AV.str
noncomputable def prsAV (l:SS):List AV:=l.map fun p=>.tup [.str p.1,.str p.2]
noncomputable def rview (n i:Nat) (k:RK) (r:Row):PObj:=match k with
|.row=>.inst C_Row (.rowd i)
|.rowd=>.nsd (rowFs n i r)
|.ch=>.list (intsAV r.ch)
|.att=>.list (intsAV r.at_)
|.nss=>.list (intsAV r.ns)
noncomputable def view (n:Nat) (o:AObj) (p:Part):Option PObj:=match o with
|.list xs=>match p with|.root=>some (.list xs)|_=>none
|.txs l=>match p with|.root=>some (.list (strsAV l))|_=>none
|.ixs l=>match p with|.root=>some (.list (intsAV l))|_=>none
|.prs l=>match p with|.root=>some (.list (prsAV l))|_=>none
|.dss l=>match p with|.root=>some (.dictS l)|_=>none
|.dictI es=>match p with|.root=>some (.dictI es)|_=>none
|.src x y=>match p with|.root=>some (.src x y)|_=>none
|.dead=>none
|.inst C fs=>match p with
 |.root=>some (.inst C .rootd)
 |.rootd=>some (.nsd fs)
 |_=>none
|.tree t=>match p with
 |.root=>some (.inst C_Tree .rootd)
 |.rootd=>some (.nsd [(Str.ofString "rows",.loc n .rows)])
 |.rows=>some (.list ((List.range t.length).map fun i=>.loc n (.row i)))
 |.of i k=>t[i]?.map (rview n i k)
noncomputable def bindP (f:FnD) (args:List AV):Option Vars:=
 let ps:=f.args.args.map (·.arg)
 bif Nat.ble args.length ps.length&&Nat.ble ps.length (args.length+f.dflts.length) then some (ps.zip (args++f.dflts.drop (args.length+f.dflts.length - ps.length))) else none
theorem lo_two {d:Nat} (h:d<2):d=0∨d=1:=by
 rcases d with _|_|d
 ·exact .inl rfl
 ·exact .inr rfl
 ·exact absurd h (Nat.not_lt.mpr (Nat.le_add_left 2 d))
theorem listB_iff:∀ {a b:List Nat},listB a b=true↔a=b
|[],[]=>⟨fun _=>rfl,fun _=>rfl⟩
|[],_::_=>⟨fun h=>(nomatch h),fun h=>(nomatch h)⟩
|_::_,[]=>⟨fun h=>(nomatch h),fun h=>(nomatch h)⟩
|x::xs,y::ys=>by
  show (Nat.beq x y&&listB xs ys)=true↔_
  rw [Bool.and_eq_true,listB_iff,List.cons.injEq,Nat.beq_eq]
theorem strB_iff {a b:Str}:strB a b=true↔a=b:=by
 refine listB_iff.trans ⟨fun h=>?_,fun h=>by rw [h]⟩
 cases a;cases b
 exact congrArg Str.mk (Array.toList_inj.mp h)
theorem strB_self (a:Str):strB a a=true:=strB_iff.mpr rfl
theorem strB_ne {a b:Str} (h:a≠b):strB a b=false:=Bool.eq_false_iff.mpr fun q=>h (strB_iff.mp q)
theorem strB_eq (a b:Str):strB a b=decide (a=b):=by
 by_cases h:a=b
 ·rw [decide_eq_true h];exact strB_iff.mpr h
 ·rw [decide_eq_false h];exact strB_ne h
theorem strB_beq (a b:Str):strB a b=(a==b):=by
 rw [strB_eq];by_cases h:a=b<;>simp [h]
theorem look_eq {α:Type} (x:Str):∀ l:List (Str×α),look x l=l.lookup x
|[]=>rfl
|p::r=>by
  rw [look,List.lookup_cons,strB_beq,look_eq x r]
  cases x==p.1<;>rfl
theorem look_cons {α:Type} {x:Str} {p:Str×α} {r:List (Str×α)}:look x (p::r)=if x=p.1 then some p.2 else look x r:=by
 rw [look,strB_eq]
 by_cases h:x=p.1<;>simp [h]
theorem look_setL {α:Type} (x y:Str) (v:α):∀ l:List (Str×α),look y (setL x v l)=if y=x then some v else look y l
|[]=>look_cons
|p::r=>by
  rw [setL,strB_eq]
  by_cases hz:x=p.1
  ·rw [decide_eq_true hz,cond_true,look_cons,look_cons,hz]
   by_cases h:y=p.1<;>simp [h]
  ·rw [decide_eq_false hz,cond_false,look_cons,look_cons,look_setL x y v r]
   by_cases h:y=p.1
   ·rw [if_pos h,if_pos h,if_neg fun e=>hz (e.symm.trans h)]
   ·rw [if_neg h,if_neg h]
theorem mem_of_look {α:Type} {x:Str} {v:α}:∀ {l:List (Str×α)},look x l=some v→(x,v)∈l
|[],e=>nomatch e
|p::r,e=>by
  rw [look_cons] at e
  split at e
  ·rename_i h;cases e;rw [h];exact .head _
  ·exact .tail _ (mem_of_look e)
inductive Own where
|lcl
|prv
|mu (n:Nat) (p:Part)
structure Cfg where
 dom:Nat→Part→Prop
 rho:Nat→Part→Addr
 own:Addr→Option Own
 fz:Addr→Option Obj
noncomputable abbrev tupObj (vs:List Value) (k:Nat):Obj:={ cls:=.type "tuple",data:=.seq vs.toArray k }
noncomputable abbrev lstObj (vs:List Value) (k:Nat):Obj:={ cls:=.type "list",data:=.seq vs.toArray k }
noncomputable abbrev insObj (C dx:Addr):Obj:={ cls:=.ref C,dict:=some dx,data:=.plain }
noncomputable abbrev nsdObj (es:List DictEntry) (k:Nat):Obj:={ cls:=.type "dict",data:=.dict es.toArray k }
mutual
inductive VRep (C:Cfg):AV→Value→Prop
|val (v:Value):VRep C (.val v) v
|int (i:Int) (t:Tok):VRep C (.int i) (.int i t)
|str (s:Str) (t:Tok):okS s=true→VRep C (.str s) (.str s t)
|loc (n:Nat) (p:Part):C.dom n p→VRep C (.loc n p) (.ref (C.rho n p))
|tup {xs:List AV} {a:Addr} {vs:List Value} {k:Nat}:C.fz a=some (tupObj vs k)→VReps C xs vs→xs.length≤cap→VRep C (.tup xs) (.ref a)
|lst {xs:List AV} {a:Addr} {vs:List Value} {k:Nat}:C.fz a=some (lstObj vs k)→VReps C xs vs→xs.all flat=true→xs.length≤cap→VRep C (.lst xs) (.ref a)
inductive VReps (C:Cfg):List AV→List Value→Prop
|nil:VReps C [] []
|cons {x:AV} {v:Value} {xs:List AV} {vs:List Value}:VRep C x v→VReps C xs vs→VReps C (x::xs) (v::vs)
end
inductive SPairs:SS→List (Str×Value)→Prop
|nil:SPairs [] []
|cons {k x:Str} {t:Tok} {xs:SS} {vs:List (Str×Value)}:okS k=true→okS x=true→SPairs xs vs→SPairs ((k,x)::xs) ((k,.str x t)::vs)
inductive IPairs (C:Cfg):List (Int×AV)→List (Int×Value)→Prop
|nil:IPairs C [] []
|cons {k:Int} {x:AV} {v:Value} {xs:List (Int×AV)} {vs:List (Int×Value)}:VRep C x v→IPairs C xs vs→IPairs C ((k,x)::xs) ((k,v)::vs)
inductive NPairs (C:Cfg):List (Str×AV)→List DictEntry→Prop
|nil:NPairs C [] []
|cons {k:Str} {x:AV} {h:Int} {t:Tok} {v:Value} {xs:List (Str×AV)} {es:List DictEntry}:VRep C x v→NPairs C xs es→NPairs C ((k,x)::xs) (⟨h,.str k t,v⟩::es)
inductive BPairs (C:Cfg):Vars→List (Str×Value)→Prop
|nil:BPairs C [] []
|cons {x:Str} {v:AV} {u:Value} {r:Vars} {q:List (Str×Value)}:VRep C v u→BPairs C r q→BPairs C ((x,v)::r) ((x,u)::q)
structure More (C C':Cfg):Prop where
 rho:∀ n p,C.dom n p→C'.dom n p∧C'.rho n p=C.rho n p
 fz:∀ x o,C.fz x=some o→C'.fz x=some o
theorem VReps.monoI {C C':Cfg} (f:∀ v u,VRep C v u→VRep C' v u) {vs:List AV} {us:List Value} (h:VReps C vs us):VReps C' vs us:=
 @VReps.rec C (fun _ _ _=>True) (fun vs us _=>VReps C' vs us) (fun _=>trivial) (fun _ _=>trivial) (fun _ _ _=>trivial) (fun _ _ _=>trivial) (fun _ _ _ _=>trivial) (fun _ _ _ _ _=>trivial) .nil (fun h _ _ r=>.cons (f _ _ h) r) vs us h
theorem VRep.mono {C C':Cfg} (x:More C C') {v:AV} {u:Value} (h:VRep C v u):VRep C' v u:=
 @VRep.rec C (fun v u _=>VRep C' v u) (fun vs us _=>VReps C' vs us) (fun v=>.val v) (fun i t=>.int i t) (fun s t h=>.str s t h) (fun n p h=>(x.rho n p h).2▸.loc n p (x.rho n p h).1)
  (fun e _ l r=>.tup (x.fz _ _ e) r l) (fun e _ z l r=>.lst (x.fz _ _ e) r z l) .nil (fun _ _ h r=>.cons h r) v u h
theorem VReps.mono {C C':Cfg} (x:More C C') {vs:List AV} {us:List Value} (h:VReps C vs us):VReps C' vs us:=h.monoI fun _ _=>.mono x
theorem VReps.ind {C:Cfg} {P:List AV→List Value→Prop} (n:P [] []) (c:∀ x v xs vs,VRep C x v→VReps C xs vs→P xs vs→P (x::xs) (v::vs)) {vs:List AV} {us:List Value} (h:VReps C vs us):P vs us:=
 @VReps.rec C (fun _ _ _=>True) (fun vs us _=>P vs us) (fun _=>trivial) (fun _ _=>trivial) (fun _ _ _=>trivial) (fun _ _ _=>trivial) (fun _ _ _ _=>trivial) (fun _ _ _ _ _=>trivial) n (fun h r _ q=>c _ _ _ _ h r q) vs us h
theorem IPairs.mono {C C':Cfg} (x:More C C') {vs:List (Int×AV)} {us:List (Int×Value)} (h:IPairs C vs us):IPairs C' vs us:=by
 induction h with
|nil=>exact .nil
|cons h _ r=>exact .cons (h.mono x) r
theorem NPairs.mono {C C':Cfg} (x:More C C') {vs:List (Str×AV)} {us:List DictEntry} (h:NPairs C vs us):NPairs C' vs us:=by
 induction h with
|nil=>exact .nil
|cons h _ r=>exact .cons (h.mono x) r
theorem BPairs.mono {C C':Cfg} (x:More C C') {vs:Vars} {binds:List (Str×Value)} (h:BPairs C vs binds):BPairs C' vs binds:=by
 induction h with
|nil=>exact .nil
|cons h _ r=>exact .cons (h.mono x) r
theorem VReps.length {C:Cfg} {xs:List AV} {vs:List Value} (h:VReps C xs vs):vs.length=xs.length:=h.ind (P:=fun xs vs=>vs.length=xs.length) rfl fun _ _ _ _ _ _ q=>congrArg (·+1) q
theorem VReps.get {C:Cfg} {xs:List AV} {vs:List Value} (h:VReps C xs vs):∀ {i:Nat} {x:AV},xs[i]?=some x→∃ v,vs[i]?=some v∧VRep C x v:=by
 refine h.ind (P:=fun xs vs=>∀ {i:Nat} {x:AV},xs[i]?=some x→∃ v,vs[i]?=some v∧VRep C x v) (fun e=>nomatch e) fun y v _ _ h _ q {i} x e=>?_
 cases i with
|zero=>exact ⟨v,rfl,(Option.some.inj e:y=x)▸h⟩
|succ i=>exact q e
theorem VReps.append {C:Cfg} {xs ys:List AV} {vs us:List Value} (h:VReps C xs vs) (k:VReps C ys us):VReps C (xs++ys) (vs++us):=
 h.ind (P:=fun xs vs=>VReps C (xs++ys) (vs++us)) k fun _ _ _ _ h _ q=>.cons h q
theorem VReps.one {C:Cfg} {x:AV} {us:List Value} (r:VReps C [x] us):∃ u,us=[u]∧VRep C x u:=by
 cases r with|cons h r=>cases r;exact ⟨_,rfl,h⟩
theorem VReps.two {C:Cfg} {x y:AV} {us:List Value} (r:VReps C [x,y] us):∃ u v,us=[u,v]∧VRep C x u∧VRep C y v:=by
 cases r with|cons h r=>obtain ⟨v,rfl,h'⟩:=r.one;exact ⟨_,_,rfl,h,h'⟩
structure Cx where
 prog:Program
 w:World
 hb:Heap
 K:Frag
noncomputable abbrev Cx.M (g:Cx):Model:=model g.prog g.w
structure SrcOk (x y:Int):Prop where
 y0:0≤y
 y1:y<2147483647
noncomputable def PRep (g:Cx) (C:Cfg) (h:Heap) (n:Nat) (p:Part):PObj→Prop
|.list xs=>∃ vs k,h.get? (C.rho n p)=some (lstObj vs k)∧VReps C xs vs∧xs.length≤cap
|.dictS es=>∃ kvs,h.DictOf (strKind g.prog g.w) (C.rho n p) kvs∧SPairs es kvs∧(C.rho n p==sysModules)=false
|.dictI es=>∃ kvs,h.DictOf (intKind g.prog g.w) (C.rho n p) kvs∧IPairs C es kvs∧(C.rho n p==sysModules)=false
|.inst c d=>h.get? (C.rho n p)=some (insObj c (C.rho n d))∧C.dom n d
|.nsd fs=>∃ es k,h.get? (C.rho n p)=some (nsdObj es k)∧NPairs C fs es
|.src x y=>∃ t u k,h.get? (C.rho n p)=some (lstObj [.int x t,.int y u] k)∧SrcOk x y
structure Ok (g:Cx) (C:Cfg) (h:Heap) (a:Hp):Prop where
 fz:∀ x o,C.fz x=some o→h.get? x=some o∧C.own x=none
 base:∀ x o,g.hb.get? x=some o→C.fz x=some o
 live:∀ x u,C.own x=some u→∃ o,h.get? x=some o
 N:∀ n p,C.dom n p→n<a.length
 at_:∀ (n:Nat) (o:AObj) (p:Part) (po:PObj),a[n]?=some o→view n o p=some po→C.dom n p∧C.own (C.rho n p)=some (.mu n p)∧PRep g C h n p po
 dv:∀ (n:Nat) (o:AObj) (p:Part),a[n]?=some o→C.dom n p→o=.dead∨∃ po,view n o p=some po
noncomputable def isMut:Option Own→Prop
|some (.mu _ _)=>True
|_=>False
noncomputable def isLcl:Option Own→Prop
|some .lcl=>True
|_=>False
structure Ext (D:Nat→Prop) (b:Bool) (C:Cfg) (h:Heap) (C':Cfg) (h':Heap):Prop where
 rho:∀ n p,D n→C.dom n p→C'.dom n p∧C'.rho n p=C.rho n p
 fz:∀ x o,C.fz x=some o→C'.fz x=some o
 keep:∀ x o,h.get? x=some o→¬ isMut (C.own x)→(b=true∨¬ isLcl (C.own x))→h'.get? x=some o
 live:∀ x o,h.get? x=some o→∃ o',h'.get? x=some o'
 free:∀ x o,h.get? x=some o→C.own x=none→C'.own x=none
 lcl:∀ x,C.own x=some .lcl→C'.own x=some .lcl
 prv:∀ x,C.own x=some .prv→C'.own x=some .prv
 fzn:∀ x o,C'.fz x=some o→C.fz x=some o∨isMut (C.own x)∨h.get? x=none
 lcln:∀ x,C'.own x=some .lcl→C.own x=some .lcl∨h.get? x=none
noncomputable abbrev All:Nat→Prop:=fun _=>True
theorem own_cases (C:Cfg) (x:Addr):C.own x=none∨C.own x=some .lcl∨C.own x=some .prv∨isMut (C.own x):=by
 cases q:C.own x with
|none=>exact .inl rfl
|some u=>cases u with
 |lcl=>exact .inr (.inl rfl)
 |prv=>exact .inr (.inr (.inl rfl))
 |mu n p=>exact .inr (.inr (.inr trivial))
theorem nmut_none {x:Option Own} (h:x=none):¬ isMut x:=h▸id
theorem nmut_lcl {x:Option Own} (h:x=some .lcl):¬ isMut x:=h▸id
theorem nmut_prv {x:Option Own} (h:x=some .prv):¬ isMut x:=h▸id
theorem nlcl_none {x:Option Own} (h:x=none):¬ isLcl x:=h▸id
theorem nlcl_prv {x:Option Own} (h:x=some .prv):¬ isLcl x:=h▸id
structure St where
 C:Cfg
 s:Shared
noncomputable abbrev St.h (σ:St):Heap:=σ.s.heap
structure Nx (D:Nat→Prop) (b:Bool) (σ σ':St):Prop where
 ext:Ext D b σ.C σ.h σ'.C σ'.h
 same:σ'.s={ σ.s with heap:=σ'.s.heap,toks:=σ'.s.toks }
section
variable {D D':Nat→Prop} {b:Bool} {C C' C₁ C₂ C₃:Cfg} {h h' h₁ h₂ h₃:Heap} {σ σ' σ₁ σ₂ σ₃:St} {g:Cx} {a a':Hp}
theorem Ext.grow (k:∀ x o,h.get? x=some o→h'.get? x=some o):Ext D b C h C h' where
 rho:=fun _ _ _ e=>⟨e,rfl⟩
 fz:=fun _ _ e=>e
 keep:=fun x o e _ _=>k x o e
 live:=fun x o e=>⟨o,k x o e⟩
 free:=fun _ _ _ e=>e
 lcl:=fun _ e=>e
 prv:=fun _ e=>e
 fzn:=fun _ _ e=>.inl e
 lcln:=fun _ e=>.inl e
theorem Ext.weak (x:Ext D true C h C' h') (d:∀ n,D' n→D n):Ext D' b C h C' h':=
 {x with rho:=fun n p hn=>x.rho n p (d n hn),keep:=fun a o e m _=>x.keep a o e m (.inl rfl) }
theorem Ext.trans (x:Ext D b C₁ h₁ C₂ h₂) (y:Ext D b C₂ h₂ C₃ h₃):Ext D b C₁ h₁ C₃ h₃ where
 rho:=fun n p d hn=>have z:=x.rho n p d hn;have z':=y.rho n p d z.1;⟨z'.1,z'.2.trans z.2⟩
 fz:=fun a o e=>y.fz a o (x.fz a o e)
 keep:=fun a o e m l=>by
  have e2:=x.keep a o e m l
  rcases own_cases C₁ a with q|q|q|q
  ·have q2:=x.free a o e q
   exact y.keep a o e2 (nmut_none q2) (.inr (nlcl_none q2))
  ·exact y.keep a o e2 (nmut_lcl (x.lcl a q)) (l.elim .inl fun l=>absurd (q▸trivial) l)
  ·have q2:=x.prv a q
   exact y.keep a o e2 (nmut_prv q2) (.inr (nlcl_prv q2))
  ·exact absurd q m
 live:=fun a o e=>by obtain ⟨o',e'⟩:=x.live a o e;exact y.live a o' e'
 free:=fun a o e q=>by obtain ⟨o',e'⟩:=x.live a o e;exact y.free a o' e' (x.free a o e q)
 lcl:=fun a q=>y.lcl a (x.lcl a q)
 prv:=fun a q=>y.prv a (x.prv a q)
 fzn:=fun a o e=>by
  cases e1:h₁.get? a with
 |none=>exact .inr (.inr rfl)
 |some o1=>
   rcases y.fzn a o e with q|q|q
   ·exact (x.fzn a o q).imp id fun z=>.inl (z.resolve_right (by rw [e1];exact fun z=>nomatch z))
   ·rcases own_cases C₁ a with z|z|z|z
    ·exact absurd q (nmut_none (x.free a o1 e1 z))
    ·exact absurd q (nmut_lcl (x.lcl a z))
    ·exact absurd q (nmut_prv (x.prv a z))
    ·exact .inr (.inl z)
   ·obtain ⟨o',e'⟩:=x.live a o1 e1
    exact nomatch q.symm.trans e'
 lcln:=fun a e=>by
  cases e1:h₁.get? a with
 |none=>exact .inr rfl
 |some o1=>
   rcases y.lcln a e with q|q
   ·exact .inl ((x.lcln a q).resolve_right (by rw [e1];exact fun z=>nomatch z))
   ·obtain ⟨o',e'⟩:=x.live a o1 e1
    exact nomatch q.symm.trans e'
theorem Nx.refl:Nx D b σ σ:=⟨.grow fun _ _ e=>e,rfl⟩
theorem Nx.trans (x:Nx D b σ₁ σ₂) (y:Nx D b σ₂ σ₃):Nx D b σ₁ σ₃:=⟨x.ext.trans y.ext,by rw [y.same,x.same]⟩
theorem Nx.weak (x:Nx D true σ σ') (d:∀ n,D' n→D n):Nx D' b σ σ':=⟨x.ext.weak d,x.same⟩
theorem Nx.w (x:Nx All true σ σ'):Nx D b σ σ':=x.weak fun _ _=>trivial
theorem Nx.more (x:Nx All b σ σ'):More σ.C σ'.C:=⟨fun n p=>x.ext.rho n p trivial,x.ext.fz⟩
theorem Ext.more (x:Ext All b C h C' h'):More C C':=⟨fun n p=>x.rho n p trivial,x.fz⟩
noncomputable def viewAt (a:Hp) (n:Nat) (p:Part):Option PObj:=a[n]?.bind fun o=>view n o p
theorem Ok.part (O:Ok g C h a) {n:Nat} {p:Part} {po:PObj} (e:viewAt a n p=some po):C.dom n p∧C.own (C.rho n p)=some (.mu n p)∧PRep g C h n p po:=by
 obtain ⟨_,e1,e2⟩:=Option.bind_eq_some_iff.mp e
 exact O.at_ _ _ _ _ e1 e2
theorem Ok.stays (O:Ok g C h a):∀ x o,g.hb.get? x=some o→h.get? x=some o:=fun x o e=>(O.fz x o (O.base x o e)).1
theorem Ok.fzh (O:Ok g C h a):∀ x o,C.fz x=some o→h.get? x=some o:=fun x o e=>(O.fz x o e).1
theorem Ok.own_none (O:Ok g C h a) {x:Addr} (e:h.get? x=none):C.own x=none:=by
 cases q:C.own x with
|none=>rfl
|some u=>obtain ⟨o,z⟩:=O.live x u q;exact nomatch e.symm.trans z
theorem Ok.fz_none (O:Ok g C h a) {x:Addr} (e:h.get? x=none):C.fz x=none:=by
 cases q:C.fz x with
|none=>rfl
|some u=>exact nomatch e.symm.trans (O.fz x u q).1
theorem Ok.hb_none (O:Ok g C h a) {x:Addr} (e:h.get? x=none):g.hb.get? x=none:=by
 cases q:g.hb.get? x with
|none=>rfl
|some u=>exact nomatch e.symm.trans (O.stays x u q)
theorem PRep.keep {n:Nat} {p:Part} {po:PObj} (k:∀ o,h.get? (C.rho n p)=some o→h'.get? (C.rho n p)=some o) (R:PRep g C h n p po):PRep g C h' n p po:=by
 cases po with
|list xs=>obtain ⟨us,i,z1,z2⟩:=R;exact ⟨us,i,k _ z1,z2⟩
|dictS es=>obtain ⟨kvs,z1,z2⟩:=R;obtain ⟨o,y1,y2⟩:=Heap.dictOf_iff.mp z1;exact ⟨kvs,Heap.dictOf_iff.mpr ⟨o,k _ y1,y2⟩,z2⟩
|dictI es=>obtain ⟨kvs,z1,z2⟩:=R;obtain ⟨o,y1,y2⟩:=Heap.dictOf_iff.mp z1;exact ⟨kvs,Heap.dictOf_iff.mpr ⟨o,k _ y1,y2⟩,z2⟩
|inst c d=>exact ⟨k _ R.1,R.2⟩
|nsd fs=>obtain ⟨es,i,z1,z2⟩:=R;exact ⟨es,i,k _ z1,z2⟩
|src x y=>obtain ⟨t,u,i,z1,z2⟩:=R;exact ⟨t,u,i,k _ z1,z2⟩
theorem PRep.mono (x:More C C') {n:Nat} {p:Part} {po:PObj} (d:C.dom n p) (R:PRep g C h n p po):PRep g C' h n p po:=by
 have e:=(x.rho n p d).2
 cases po with
|list xs=>obtain ⟨us,i,z1,z2,z3⟩:=R;exact ⟨us,i,e.symm▸z1,z2.mono x,z3⟩
|dictS es=>obtain ⟨kvs,z⟩:=R;exact ⟨kvs,e.symm▸z⟩
|dictI es=>obtain ⟨kvs,z1,z2,z3⟩:=R;exact ⟨kvs,e.symm▸z1,z2.mono x,e.symm▸z3⟩
|inst c d=>obtain ⟨z1,z2⟩:=R;exact ⟨by rw [e,(x.rho n d z2).2];exact z1,(x.rho n d z2).1⟩
|nsd fs=>obtain ⟨es,i,z1,z2⟩:=R;exact ⟨es,i,e.symm▸z1,z2.mono x⟩
|src x' y'=>obtain ⟨t,u,z⟩:=R;exact ⟨t,u,e.symm▸z⟩
theorem Ok.grow (O:Ok g C h a) (k:∀ x o,h.get? x=some o→h'.get? x=some o):Ok g C h' a where
 fz:=fun x o e=>⟨k x o (O.fz x o e).1,(O.fz x o e).2⟩
 base:=O.base
 live:=fun x u e=>by obtain ⟨o,q⟩:=O.live x u e;exact ⟨o,k x o q⟩
 N:=O.N
 at_:=fun n o p po e1 e2=>by obtain ⟨q0,q1,q2⟩:=O.at_ n o p po e1 e2;exact ⟨q0,q1,q2.keep (k _)⟩
 dv:=O.dv
end
structure EnvOk (env:Env) (sc:Scope):Prop where
 kind:env.scope.kind=.function
 glb:env.globals=mainGlobals
 blt:env.builtins=builtinsNs
 nm:∀ x k,look x sc.names=some k→(env.kindOf x=some k∨(k=.free∧env.kindOf x=some .cell))∧(x==("__debug__":Str))=false∧(x==("__classdict__":Str))=false
 cell:∀ x,(env.kindOf x=some .cell∨env.kindOf x=some .free)→∃ c,env.cells.lookup x=some c
structure Room (n:Nat) (A:Around):Prop where
 handled:A.handled=none
 depth:A.depth+2*n+10<recursionLimit
 units:A.units+20*n+200<cLine
theorem ar1 {d n c:Nat} (h:d+2*(n+1)+10<c):d+1+2*n+10<c:=by omega
theorem ar2 {d n c k:Nat} (h:d+20*(n+1)+200<c) (hk:k≤20):d+k+20*n+200<c:=by omega
theorem Room.less {n m:Nat} {A:Around} (h:Room n A) (hm:m≤n):Room m A:=⟨h.handled,Nat.lt_of_le_of_lt (Nat.add_le_add_right (Nat.add_le_add_left (Nat.mul_le_mul_left 2 hm) _) _) h.depth,Nat.lt_of_le_of_lt (Nat.add_le_add_right (Nat.add_le_add_left (Nat.mul_le_mul_left 20 hm) _) _) h.units⟩
theorem Room.in1 {n:Nat} {A:Around} (h:Room (n+1) A):Room n A.in1:=⟨h.handled,(h.less (Nat.le_succ n)).depth,ar2 (k:=1) h.units (by decide)⟩
theorem Room.deeper {n:Nat} {A:Around} (h:Room (n+1) A) (env:Env):Room n (A.deeper env):=
 ⟨h.handled,ar1 h.depth,ar2 (k:=3) h.units (by decide)⟩
theorem Room.u64 {n:Nat} {A:Around} (h:Room n A):A.units+64<cLine:=Nat.lt_of_le_of_lt (Nat.add_le_add (Nat.le_add_right ..) (by decide)) h.units
theorem Room.dep {n:Nat} {A:Around} (h:Room n A):A.depth<recursionLimit:=Nat.lt_of_le_of_lt (Nat.le_trans (Nat.le_add_right _ (2*n)) (Nat.le_add_right ..)) h.depth
structure VR (g:Cx) (σ:St) (env:Env) (vs:Vars):Prop where
 fr:∃ m,σ.h.Ns env.locals m∧∀ x v,look x vs=some v→env.kindOf x=some .local→∃ u,m x=some u∧VRep σ.C v u
 own:σ.C.own env.locals=some .lcl
 cells:∀ x c,env.cells.lookup x=some c→σ.C.own c=some .lcl∧c≠env.locals∧g.hb.get? c=none ∧
  ∃ v0,σ.h.IsCell c v0∧∀ v,look x vs=some v→(env.kindOf x=some .cell∨env.kindOf x=some .free)→∃ u,v0=some u∧VRep σ.C v u
 inj:∀ x y c,env.cells.lookup x=some c→env.cells.lookup y=some c→x=y
theorem VR.map {g:Cx} {σ σ':St} {env:Env} {vs vs':Vars} (V:VR g σ env vs) (k:∀ y o,σ.C.own y=some .lcl→σ.h.get? y=some o→σ'.C.own y=some .lcl∧σ'.h.get? y=some o)
  (m:∀ x v',look x vs'=some v'→∃ v,look x vs=some v∧∀ u,VRep σ.C v u→VRep σ'.C v' u):VR g σ' env vs':=by
 have ol:∀ y,σ.C.own y=some .lcl→(∃ o,σ.h.get? y=some o)→σ'.C.own y=some .lcl:=fun y e w_=>by obtain ⟨o,z⟩:=w_;exact (k y o e z).1
 refine ⟨?_,?_,fun y c e=>?_,V.inj⟩
 ·obtain ⟨f,F,hm⟩:=V.fr
  refine ⟨f,F.at fun o ho=>(k _ o V.own ho).2,fun y v' e kd=>?_⟩
  obtain ⟨v,e',r⟩:=m y v' e
  obtain ⟨u,q,z⟩:=hm y v e' kd
  exact ⟨u,q,r u z⟩
 ·obtain ⟨f,⟨o,_,_,ho,_⟩,_⟩:=V.fr
  exact (k _ o V.own ho).1
 ·obtain ⟨q1,q2,q3,v0,⟨o,ho,hd⟩,q4⟩:=V.cells y c e
  refine ⟨(k c o q1 ho).1,q2,q3,v0,⟨o,(k c o q1 ho).2,hd⟩,fun v' e2 kd=>?_⟩
  obtain ⟨v,e',r⟩:=m y v' e2
  obtain ⟨u,z1,z2⟩:=q4 v e' kd
  exact ⟨u,z1,r u z2⟩
theorem VR.ext {g:Cx} {σ σ':St} {env:Env} {vs:Vars} (V:VR g σ env vs) (x:Nx All true σ σ'):VR g σ' env vs:=
 V.map (fun y o e z=>⟨x.ext.lcl y e,x.ext.keep y o z (nmut_lcl e) (.inl rfl)⟩) fun _ v e=>⟨v,e,fun _ r=>r.mono x.more⟩
def GlobIs (hb:Heap) (x:Str) (u:Value):Prop:=
 ∀ (M:Model) (A:Around) (E:Value→Shared→Prop) (env:Env) (s:Shared) (Q:Value→Shared→Prop),env.globals=mainGlobals→env.builtins=builtinsNs →
  (∀ b o,hb.get? b=some o→s.heap.get? b=some o)→Q u s→wpAny M A (loadGlobal env x) Q E s
structure FnOk (hb:Heap) (f:Addr) (d:FnD):Prop where
 there:∃ o fd,hb.get? f=some o∧o.data=.func fd∧fd.qualname=d.qual∧fd.body=.stmts d.body∧fd.scope=d.scope∧fd.globals=mainGlobals∧fd.closure=[]∧fd.builtins=builtinsNs∧hb.CodeRec fd.code fd.qualname∧fd.scope.isCoroutine=false∧fd.scope.isGenerator=false∧fd.scope.kind=.function ∧
  ∀ (C:Cfg) (args:List AV) (vs:Vars) (us:List Value) (s:Shared),bindP d args=some vs→VReps C args us→(∀ b o,hb.get? b=some o→s.heap.get? b=some o) →
   ∃ binds,BindsTo s fd ⟨us,[]⟩ binds∧BPairs C vs binds
 names:∀ x k,look x d.scope.names=some k→(x==("__debug__":Str))=false∧(x==("__classdict__":Str))=false
 nofree:∀ x,look x d.scope.names≠some .free
 pars:∀ args vs,bindP d args=some vs→(vs.map (·.1)).Nodup∧∀ x∈vs,look x.1 d.scope.names=some .local∨look x.1 d.scope.names=some .cell
 cellsNodup:((cellsFrom 0 d.scope.names []).map (·.1)).Nodup
structure Tabs where
 glob:Str→Option AV
 fn:Addr→Option FnD
 field:Addr→Str→Bool
 meth:Addr→Str→Option Addr
 init:Addr→Option Addr
structure ClsOk (T:Tabs) (K:Frag) (C:Addr):Prop where
 get:plainGet K C (Str.ofString "")=true
 dict:hasDictIn K C=true
 sets:findIn K (.ref C) "__setattr__"=some (some (.builtin "object.__setattr__"))
 over:plainOver K C=true
 field:∀ x,T.field C x=true→(∃ at_,findIn K (.ref C) x=some at_∧noGet K at_=true)∧takerIn K C x=some none
 meth:∀ x f,T.meth C x=some f→findIn K (.ref C) x=some (some (.ref f))∧isFn K (.ref f)=true
structure Gl (g:Cx) (T:Tabs):Prop where
 X:g.K.In g.hb
 glob:∀ x v,T.glob x=some v→∃ u,GlobIs g.hb x u∧∀ C:Cfg,(∀ b o,g.hb.get? b=some o→C.fz b=some o)→VRep C v u
 fn:∀ f d,T.fn f=some d→FnOk g.hb f d
 cls:∀ C,(T.init C).isSome=true∨(∃ x,T.field C x=true)∨(∃ x f,T.meth C x=some f)→ClsOk T g.K C
 init:∀ C f,T.init C=some f→makesIn g.K C=true∧findIn g.K (.ref C) "__init__"=some (some (.ref f))∧isFn g.K (.ref f)=true
 nolimit:g.hb.NoLimit
 mods:∃ x o,sysModules≤x∧g.hb.get? x=some o
theorem or_none {α:Type} {x y:Option α} (h:x=none):x.or y=y:=by rw [h];rfl
theorem or_some {α:Type} {x y:Option α} {u:α} (h:x=some u):x.or y=some u:=by rw [h];rfl
theorem none_of_size (h:Heap):h.get? h.objs.size=none:=by
 cases q:h.get? h.objs.size with
|none=>rfl
|some o=>exact absurd (Heap.lt_size q) (Nat.lt_irrefl _)
theorem size_none (h:Heap) (k:Nat):h.get? (h.objs.size+k)=none:=by
 cases q:h.get? (h.objs.size+k) with
|none=>rfl
|some o=>exact absurd (Heap.lt_size q) (Nat.not_lt.mpr (Nat.le_add_right _ _))
theorem push_keeps (h:Heap) (o:Obj):∀ x o',h.get? x=some o'→(h.push o).get? x=some o':=fun _ _ e=>Heap.get?_push_of_some _ e
theorem cap_size {n:Nat} (h:n≤cap):n≤sizeLine:=Nat.le_trans h (by decide)
section
variable {g:Cx} {D:Nat→Prop} {b:Bool} {C C' C₀:Cfg} {h h' h₀:Heap} {a a':Hp} {n:Nat} {σ σ':St}
noncomputable def Cfg.new (C:Cfg) (N:Nat) (D:Part→Prop) (f:Part→Addr) (m:Addr→Option Own):Cfg:=
 {dom:=fun n p=>C.dom n p∨(n=N∧D p),rho:=fun n p=>if n=N then f p else C.rho n p,own:=fun y=>(m y).or (C.own y),fz:=C.fz }
theorem Cfg.new_rho (C:Cfg) (N:Nat) (D:Part→Prop) (f:Part→Addr) (m:Addr→Option Own) (p:Part):(C.new N D f m).rho N p=f p:=if_pos rfl
theorem Ok.newG (O:Ok g C h a) {D:Part→Prop} {f:Part→Addr} {m:Addr→Option Own} {ao:AObj} (hm:∀ y u,m y=some u→C.own y=none∧C.fz y=none∧∃ o,h'.get? y=some o) (k:∀ x o,h.get? x=some o→h'.get? x=some o)
  (hD:∀ p,D p→∃ po,view a.length ao p=some po)
  (hv:∀ p po,view a.length ao p=some po→D p∧m (f p)=some (.mu a.length p)∧(More C (C.new a.length D f m)→PRep g (C.new a.length D f m) h' a.length p po)):
  Ok g (C.new a.length D f m) h' (a++[ao])∧More C (C.new a.length D f m):=by
 have gn:∀ y,(C.own y).isSome=true∨(C.fz y).isSome=true→m y=none:=fun y e=>by
  cases q:m y with
 |none=>rfl
 |some u=>have z:=hm y u q;rw [z.1,z.2.1] at e;exact absurd e (by simp)
 have rh:∀ n p,C.dom n p→(C.new a.length D f m).dom n p∧(C.new a.length D f m).rho n p=C.rho n p:=fun n p e=>⟨.inl e,if_neg (Nat.ne_of_lt (O.N n p e))⟩
 have M:More C (C.new a.length D f m):=⟨rh,fun _ _ e=>e⟩
 have last:∀ {j o},(a++[ao])[j]?=some o→¬ j<a.length→j=a.length∧o=ao:=fun {j o} e hn=>by
  have hj:j=a.length:=by
   have:=(List.getElem?_eq_some_iff.mp e).1
   rw [List.length_append] at this
   exact Nat.le_antisymm (Nat.le_of_lt_succ this) (Nat.le_of_not_lt hn)
  subst hj
  rw [List.getElem?_append_right (Nat.le_refl _),Nat.sub_self] at e
  exact ⟨rfl,(Option.some.inj e).symm⟩
 refine ⟨⟨fun x o e=>?_,O.base,fun x u e=>?_,fun j p e=>?_,fun j o p po e1 e2=>?_,fun j o p e1 e2=>?_⟩,M⟩
 ·obtain ⟨z1,z2⟩:=O.fz x o e
  exact ⟨k x o z1,(or_none (gn x (.inr (Option.isSome_iff_exists.mpr ⟨o,e⟩)))).trans z2⟩
 ·cases q:m x with
 |some u'=>exact (hm x u' q).2.2
 |none=>
   obtain ⟨o,z⟩:=O.live x u ((or_none q).symm.trans e)
   exact ⟨o,k x o z⟩
 ·rw [List.length_append]
  exact e.elim (fun e=>Nat.lt_succ_of_lt (O.N j p e)) fun e=>e.1▸Nat.lt_succ_self _
 ·by_cases hn:j<a.length
  ·rw [List.getElem?_append_left hn] at e1
   obtain ⟨q0,q1,q2⟩:=O.at_ j o p po e1 e2
   refine ⟨.inl q0,?_,(q2.keep (k _)).mono M q0⟩
   rw [(rh j p q0).2]
   exact (or_none (gn _ (.inl (by rw [q1];rfl)))).trans q1
  ·obtain ⟨rfl,rfl⟩:=last e1 hn
   obtain ⟨q0,q1,q2⟩:=hv p po e2
   exact ⟨.inr ⟨rfl,q0⟩,(congrArg _ (Cfg.new_rho ..)).trans (or_some q1),q2 M⟩
 ·by_cases hn:j<a.length
  ·rw [List.getElem?_append_left hn] at e1
   exact e2.elim (O.dv j o p e1) fun e2=>absurd e2.1 (Nat.ne_of_lt hn)
  ·obtain ⟨rfl,rfl⟩:=last e1 hn
   exact e2.elim (fun e2=>absurd (O.N _ p e2) (Nat.lt_irrefl _)) fun e2=>.inr (hD p e2.2)
theorem Ext.newG {D':Part→Prop} {f:Part→Addr} {m:Addr→Option Own} {N:Nat} (x:Ext D b C₀ h₀ C h) (hN:∀ n p,C.dom n p→n≠N) (hm:∀ y u,m y=some u→(∃ n p,u=.mu n p)∧h₀.get? y=none∧C₀.own y=none) (k:∀ x o,h.get? x=some o→h'.get? x=some o):
  Ext D b C₀ h₀ (C.new N D' f m) h':=by
 have gn:∀ y o,h₀.get? y=some o→m y=none:=fun y o e=>by
  cases q:m y with
 |none=>rfl
 |some u=>exact nomatch e.symm.trans (hm y u q).2.1
 have g0:∀ y u,C₀.own y=some u→m y=none:=fun y o e=>by
  cases q:m y with
 |none=>rfl
 |some u=>exact nomatch e.symm.trans (hm y u q).2.2
 refine ⟨fun n p d e=>?_,x.fz,fun y o e z l=>k y o (x.keep y o e z l),fun y o e=>by obtain ⟨o',z⟩:=x.live y o e;exact ⟨o',k y o' z⟩,fun y o e q=>(or_none (gn y o e)).trans (x.free y o e q),fun y q=>(or_none (g0 y _ q)).trans (x.lcl y q),fun y q=>(or_none (g0 y _ q)).trans (x.prv y q),x.fzn,fun y q=>?_⟩
 ·have z:=x.rho n p d e
  exact ⟨.inl z.1,(if_neg (hN n p z.1)).trans z.2⟩
 ·cases e:m y with
 |none=>exact x.lcln y ((or_none e).symm.trans q)
 |some u=>
   obtain ⟨⟨n,p,rfl⟩,_⟩:=hm y u e
   exact nomatch (or_some e).symm.trans q
theorem Ok.new1G (O:Ok g C h a) (x₀:Ext D b C₀ h₀ C h) {ao:AObj} {po:PObj} {x:Addr} (hx:C.own x=none) (hf:C.fz x=none) (h0:h₀.get? x=none) (hx0:C₀.own x=none) (hx':∃ o,h'.get? x=some o) (k:∀ x o,h.get? x=some o→h'.get? x=some o)
  (hr:view a.length ao .root=some po) (hu:∀ p po',view a.length ao p=some po'→p=.root) (hp:∀ C':Cfg,More C C'→C'.rho a.length .root=x→PRep g C' h' a.length .root po):
  ∃ C',Ok g C' h' (a++[ao])∧Ext D b C₀ h₀ C' h'∧VRep C' (.loc a.length .root) (.ref x)∧More C C'∧∀ y,y≠x→C'.own y=C.own y:=by
 have mx:∀ y u,(if y=x then some (Own.mu a.length .root) else none)=some u→y=x∧u=.mu a.length .root:=fun y u e=>by
  split at e
  ·rename_i q;exact ⟨q,(Option.some.inj e).symm⟩
  ·cases e
 obtain ⟨q1,q2⟩:=O.newG (D:=fun p=>p=.root) (f:=fun _=>x) (m:=fun y=>if y=x then some (.mu a.length .root) else none) (ao:=ao) (h':=h')
  (fun y u e=>by obtain ⟨rfl,_⟩:=mx y u e;exact ⟨hx,hf,hx'⟩) k (fun p e=>⟨po,e▸hr⟩)
  (fun p po' e=>by
   obtain rfl:=hu p po' e
   obtain rfl:=Option.some.inj (hr.symm.trans e)
   exact ⟨rfl,if_pos rfl,fun M=>hp _ M (Cfg.new_rho ..)⟩)
 refine ⟨_,q1,x₀.newG (fun n p e=>Nat.ne_of_lt (O.N n p e)) (fun y u e=>by obtain ⟨rfl,rfl⟩:=mx y u e;exact ⟨⟨_,_,rfl⟩,h0,hx0⟩) k,?_,q2,fun y e=>or_none (if_neg e)⟩
 have z:=VRep.loc (C:=C.new a.length (fun p=>p=.root) (fun _=>x) (fun y=>if y=x then some (.mu a.length .root) else none)) a.length .root (.inr ⟨rfl,rfl⟩)
 rw [Cfg.new_rho] at z
 exact z
theorem Ok.new1 (O:Ok g C h a) {ao:AObj} {po:PObj} {x:Addr} (hx:h.get? x=none) (hx':∃ o,h'.get? x=some o) (k:∀ x o,h.get? x=some o→h'.get? x=some o)
  (hr:view a.length ao .root=some po) (hu:∀ p po',view a.length ao p=some po'→p=.root) (hp:∀ C':Cfg,More C C'→C'.rho a.length .root=x→PRep g C' h' a.length .root po):
  ∃ C',Ok g C' h' (a++[ao])∧Ext All true C h C' h'∧VRep C' (.loc a.length .root) (.ref x):=by
 obtain ⟨C',z1,z2,z3,_⟩:=O.new1G (Ext.grow fun _ _ e=>e) (O.own_none hx) (O.fz_none hx) hx (O.own_none hx) hx' k hr hu hp
 exact ⟨C',z1,z2,z3⟩
noncomputable def Cfg.mark (C:Cfg) (m:Addr→Option Own):Cfg:={ C with own:=fun y=>(m y).or (C.own y) }
theorem Ok.mark (O:Ok g C h a) {m:Addr→Option Own} (hg:∀ y u,m y=some u→h.get? y=none∧∃ o,h'.get? y=some o) (k:∀ x o,h.get? x=some o→h'.get? x=some o):
  Ok g (C.mark m) h' a∧Ext All true C h (C.mark m) h':=by
 have gn:∀ y o,h.get? y=some o→m y=none:=fun y o e=>by
  cases q:m y with
 |none=>rfl
 |some u=>exact nomatch e.symm.trans (hg y u q).1
 have ow:∀ y u,C.own y=some u→(C.mark m).own y=some u:=fun y u e=>by obtain ⟨o,z⟩:=O.live y u e;exact (or_none (gn y o z)).trans e
 have M:More C (C.mark m):=⟨fun _ _ e=>⟨e,rfl⟩,fun _ _ e=>e⟩
 refine ⟨⟨fun x o e=>by obtain ⟨z1,z2⟩:=O.fz x o e;exact ⟨k x o z1,(or_none (gn x o z1)).trans z2⟩,O.base,fun x u e=>?_,O.N,fun n o p po e1 e2=>by obtain ⟨q0,q1,q2⟩:=O.at_ n o p po e1 e2;exact ⟨q0,ow _ _ q1,(q2.keep (k _)).mono M q0⟩,O.dv⟩,⟨fun _ _ _ e=>⟨e,rfl⟩,fun _ _ e=>e,fun x o e _ _=>k x o e,fun x o e=>⟨o,k x o e⟩,fun x o e q=>(or_none (gn x o e)).trans q,fun x=>ow x _,fun x=>ow x _,fun _ _ e=>.inl e,fun x q=>?_⟩⟩
 ·cases q:m x with
 |some u'=>exact (hg x u' q).2
 |none=>
   obtain ⟨o,z⟩:=O.live x u ((or_none q).symm.trans e)
   exact ⟨o,k x o z⟩
 ·cases e:h.get? x with
 |none=>exact .inr rfl
 |some o=>exact .inl ((or_none (gn x o e)).symm.trans q)
noncomputable def Cfg.freeze (C:Cfg) (x:Addr) (o:Obj):Cfg:={ C with fz:=fun y=>if y=x then some o else C.fz y }
theorem Ok.freezeG (O:Ok g C h a) {x:Addr} {o:Obj} (hx:C.own x=none) (hf:C.fz x=none) (hx':h.get? x=some o):
  Ok g (C.freeze x o) h a∧More C (C.freeze x o):=by
 have M:More C (C.freeze x o):=⟨fun _ _ e=>⟨e,rfl⟩,fun y o' e=>(if_neg fun z=>nomatch (z▸e).symm.trans hf).trans e⟩
 refine ⟨⟨fun y o' e=>?_,fun y o' e=>M.fz y o' (O.base y o' e),O.live,O.N,fun n o' p po e1 e2=>by obtain ⟨q0,q1,q2⟩:=O.at_ n o' p po e1 e2;exact ⟨q0,q1,q2.mono M q0⟩,O.dv⟩,M⟩
 by_cases hy:y=x
 ·subst hy
  obtain rfl:=Option.some.inj ((if_pos rfl).symm.trans e)
  exact ⟨hx',hx⟩
 ·exact O.fz y o' ((if_neg hy).symm.trans e)
theorem Ext.freeze (x₀:Ext D b C₀ h₀ C h) {x:Addr} {o:Obj} (hf:C.fz x=none) (h0:h₀.get? x=none):Ext D b C₀ h₀ (C.freeze x o) h:=by
 refine { x₀ with fz:=fun y o' e=>(if_neg fun z=>nomatch (z▸x₀.fz y o' e).symm.trans hf).trans (x₀.fz y o' e),fzn:=fun y o' e=>?_ }
 by_cases hy:y=x
 ·exact .inr (.inr (hy▸h0))
 ·exact x₀.fzn y o' ((if_neg hy).symm.trans e)
theorem Ok.freeze (O:Ok g C h a) {x:Addr} {o:Obj} (hx:h.get? x=none) (hx':h'.get? x=some o) (k:∀ x o,h.get? x=some o→h'.get? x=some o):
  ∃ C',Ok g C' h' a∧Ext All true C h C' h'∧C'.fz x=some o:=by
 obtain ⟨z1,z2⟩:=(O.grow k).freezeG (O.own_none hx) (O.fz_none hx) hx'
 exact ⟨_,z1,(Ext.grow k).freeze (O.fz_none hx) hx,if_pos rfl⟩
theorem Ok.upd (O:Ok g C h a) {p:Part} {ao ao':AObj} {po:PObj} (hn:a[n]?=some ao) (hv:view n ao p=some po) (k:∀ y o,y≠C.rho n p→h.get? y=some o→h'.get? y=some o) (hl:∃ o,h'.get? (C.rho n p)=some o)
  (hd:∀ q po',view n ao q=some po'→∃ po'',view n ao' q=some po'')
  (hv':∀ q po',view n ao' q=some po'→(q=p∧PRep g C h' n p po')∨(q≠p∧view n ao q=some po')):
  Ok g C h' (a.set n ao')∧Ext All true C h C h':=by
 obtain ⟨d0,d1,d2⟩:=O.at_ n ao p po hn hv
 have lv:∀ y o,h.get? y=some o→∃ o',h'.get? y=some o':=fun y o e=>by
  by_cases hy:y=C.rho n p
  ·subst hy;exact hl
  ·exact ⟨o,k y o hy e⟩
 have ne:∀ y,C.own y≠some (.mu n p)→y≠C.rho n p:=fun y q z=>q (z▸d1)
 have st:∀ {m o},(a.set n ao')[m]?=some o→(m=n∧o=ao')∨(m≠n∧a[m]?=some o):=fun {m o} e=>by
  rw [List.getElem?_set] at e
  split at e
  ·rename_i q;subst q
   rw [if_pos (List.getElem?_eq_some_iff.mp hn).1] at e
   exact .inl ⟨rfl,(Option.some.inj e).symm⟩
  ·rename_i q;exact .inr ⟨fun z=>q z.symm,e⟩
 refine ⟨⟨fun x o e=>by obtain ⟨z1,z2⟩:=O.fz x o e;exact ⟨k x o (ne x (by rw [z2];exact fun q=>nomatch q)) z1,z2⟩,O.base,fun x u e=>by obtain ⟨o,z⟩:=O.live x u e;exact lv x o z,fun m q e=>by rw [List.length_set];exact O.N m q e,fun m o q po' e1 e2=>?_,fun m o q e1 e2=>?_⟩,⟨fun _ _ _ e=>⟨e,rfl⟩,fun _ _ e=>e,fun x o e m _=>k x o (ne x fun q=>m (q▸trivial)) e,lv,fun _ _ _ e=>e,fun _ e=>e,fun _ e=>e,fun _ _ e=>.inl e,fun _ e=>.inl e⟩⟩
 ·rcases st e1 with ⟨rfl,rfl⟩|⟨hm,e1⟩
  ·rcases hv' q po' e2 with ⟨rfl,z⟩|⟨z1,z2⟩
   ·exact ⟨d0,d1,z⟩
   ·obtain ⟨q0,q1,q2⟩:=O.at_ m ao q po' hn z2
    exact ⟨q0,q1,q2.keep fun o e=>k _ o (ne _ (by rw [q1];intro z;cases z;exact z1 rfl)) e⟩
  ·obtain ⟨q0,q1,q2⟩:=O.at_ m o q po' e1 e2
   exact ⟨q0,q1,q2.keep fun o e=>k _ o (ne _ (by rw [q1];intro z;cases z;exact hm rfl)) e⟩
 ·rcases st e1 with ⟨rfl,rfl⟩|⟨hm,e1⟩
  ·rcases O.dv m ao q hn e2 with rfl|⟨po',z⟩
   ·exact nomatch hv
   ·exact .inr (hd q po' z)
  ·exact O.dv m o q e1 e2
theorem Ok.upd1 (O:Ok g C h a) {ao ao':AObj} {po po':PObj} (hn:a[n]?=some ao) (hv:view n ao .root=some po) (hr:view n ao' .root=some po') (hu:∀ q x,view n ao q=some x→q=.root) (hu':∀ q x,view n ao' q=some x→q=.root)
  (k0:∀ y o,y≠C.rho n .root→h.get? y=some o→h'.get? y=some o) (hl:∃ o,h'.get? (C.rho n .root)=some o) (hp:PRep g C h' n .root po'):
  Ok g C h' (a.set n ao')∧Ext All true C h C h':=
 O.upd hn hv k0 hl (fun q x e=>hu q x e▸⟨_,hr⟩) fun q x e=>.inl (by
  obtain rfl:=hu' q x e
  obtain rfl:=Option.some.inj (hr.symm.trans e)
  exact ⟨rfl,hp⟩)
def OwnLP (C:Cfg) (I:Addr→Prop):Prop:=∀ y,I y→C.own y=some .lcl∨C.own y=some .prv
theorem OwnLP.fz {I:Addr→Prop} (hI:OwnLP C I) (O:Ok g C h a):∀ x o,C.fz x=some o→¬ I x:=fun x o e q=>by
 have:=(O.fz x o e).2
 rcases hI x q with z|z<;>exact nomatch z.symm.trans this
theorem OwnLP.mu {I:Addr→Prop} (hI:OwnLP C I):∀ x m p,C.own x=some (.mu m p)→¬ I x:=fun x m p e q=>by
 rcases hI x q with z|z<;>exact nomatch z.symm.trans e
theorem Ok.poke (O:Ok g C h a) {I:Addr→Prop} (hI:OwnLP C I) (k:∀ y o,¬ I y→h.get? y=some o→h'.get? y=some o) (l:∀ y,I y→∃ o,h'.get? y=some o):Ok g C h' a:=by
 refine ⟨fun x o e=>⟨k x o (hI.fz O x o e) (O.fz x o e).1,(O.fz x o e).2⟩,O.base,fun x u e=>?_,O.N,fun m o p po e1 e2=>by obtain ⟨q0,q1,q2⟩:=O.at_ m o p po e1 e2;exact ⟨q0,q1,q2.keep fun o e=>k _ o (hI.mu _ _ _ q1) e⟩,O.dv⟩
 by_cases q:I x
 ·exact l x q
 ·obtain ⟨o,z⟩:=O.live x u e;exact ⟨o,k x o q z⟩
open Classical in
noncomputable def Cfg.drop (C:Cfg) (I:Addr→Prop):Cfg:={ C with own:=fun y=>if I y then none else C.own y }
theorem Cfg.drop_in {I:Addr→Prop} {y:Addr} (h:I y):(C.drop I).own y=none:=if_pos h
theorem Cfg.drop_out {I:Addr→Prop} {y:Addr} (h:¬ I y):(C.drop I).own y=C.own y:=if_neg h
theorem Cfg.drop_more {I:Addr→Prop}:More C (C.drop I):=⟨fun _ _ e=>⟨e,rfl⟩,fun _ _ e=>e⟩
theorem Ok.drop (O:Ok g C h a) {I:Addr→Prop} (hI:OwnLP C I) (k:∀ y o,¬ I y→h.get? y=some o→h'.get? y=some o):Ok g (C.drop I) h' a:=by
 refine ⟨fun x o e=>⟨k x o (hI.fz O x o e) (O.fz x o e).1,(Cfg.drop_out (hI.fz O x o e)).trans (O.fz x o e).2⟩,O.base,fun x u e=>?_,O.N,fun m o p po e1 e2=>by obtain ⟨q0,q1,q2⟩:=O.at_ m o p po e1 e2;exact ⟨q0,(Cfg.drop_out (hI.mu _ _ _ q1)).trans q1,(q2.keep fun o e=>k _ o (hI.mu _ _ _ q1) e).mono Cfg.drop_more q0⟩,O.dv⟩
 by_cases q:I x
 ·exact nomatch (Cfg.drop_in q).symm.trans e
 ·obtain ⟨o,z⟩:=O.live x u ((Cfg.drop_out q).symm.trans e);exact ⟨o,k x o q z⟩
def NotIn (C₀:Cfg) (h₀:Heap) (I:Addr→Prop):Prop:=∀ y,I y→h₀.get? y=none∧C₀.own y=none
theorem NotIn.hp {I:Addr→Prop} (hI:NotIn C₀ h₀ I):∀ y o,h₀.get? y=some o→¬ I y:=fun y _ e q=>nomatch e.symm.trans (hI y q).1
theorem NotIn.ow {I:Addr→Prop} (hI:NotIn C₀ h₀ I):∀ y u,C₀.own y=some u→¬ I y:=fun y _ e q=>nomatch e.symm.trans (hI y q).2
theorem Ext.poke (x:Ext D b C₀ h₀ C h) {I:Addr→Prop} (hI:NotIn C₀ h₀ I) (k:∀ y o,¬ I y→h.get? y=some o→h'.get? y=some o):Ext D b C₀ h₀ C h':=
 {x with keep:=fun y o e m l=>k y o (hI.hp y o e) (x.keep y o e m l),live:=fun y o e=>by obtain ⟨o',z⟩:=x.live y o e;exact ⟨o',k y o' (hI.hp y o e) z⟩}
theorem Ext.drop (x:Ext D b C₀ h₀ C h) {I:Addr→Prop} (hI:NotIn C₀ h₀ I) (k:∀ y o,¬ I y→h.get? y=some o→h'.get? y=some o):Ext D b C₀ h₀ (C.drop I) h':=by
 refine { x.poke hI k with free:=fun y o e q=>(Cfg.drop_out (hI.hp y o e)).trans (x.free y o e q),lcl:=fun y q=>(Cfg.drop_out (hI.ow y _ q)).trans (x.lcl y q),prv:=fun y q=>(Cfg.drop_out (hI.ow y _ q)).trans (x.prv y q),lcln:=fun y q=>?_ }
 by_cases z:I y
 ·exact nomatch (Cfg.drop_in z).symm.trans q
 ·exact x.lcln y ((Cfg.drop_out z).symm.trans q)
theorem NotIn.back (x:Ext D b C₀ h₀ C h) (O₀:Ok g C₀ h₀ a) {I:Addr→Prop} (hI:NotIn C h I):NotIn C₀ h₀ I:=fun y hy=>by
 have e:h₀.get? y=none:=by
  cases q:h₀.get? y with
 |none=>rfl
 |some o=>obtain ⟨o',z⟩:=x.live y o q;exact nomatch z.symm.trans (hI y hy).1
 exact ⟨e,O₀.own_none e⟩
end
theorem intsAV_push (l:List Nat) (k:Nat):intsAV (l++[k])=intsAV l++[.nat k]:=List.map_append
theorem intsAV_length (l:List Nat):(intsAV l).length=l.length:=List.length_map ..
theorem same_keeps {x:Addr} {h h':Heap} (hs:Heap.SameBut x h h'):∀ y o,y≠x→h.get? y=some o→h'.get? y=some o:=fun y _ hy e=>(hs.2 y hy).trans e
section
variable {g:Cx} {D:Nat→Prop} {b:Bool} {C C' C₀:Cfg} {h h' h₀:Heap} {a a':Hp} {n m:Nat} {σ σ':St} {t:List Row}
theorem view_set {i:Nat} {r r':Row} {p q:Part} {po:PObj} (hr:t[i]?=some r) (he:∀ k,Part.of i k≠p→rview n i k r'=rview n i k r) (hq:q≠p) (e:view n (.tree (t.set i r')) q=some po):view n (.tree t) q=some po:=by
 cases q with
|root=>exact e
|rootd=>exact e
|rows=>simpa only [view,List.length_set] using e
|of j k=>
  show t[j]?.map (rview n j k)=some po
  have e:(t.set i r')[j]?.map (rview n j k)=some po:=e
  rw [List.getElem?_set] at e
  by_cases hij:i=j
  ·subst hij
   rw [if_pos rfl,if_pos (List.getElem?_eq_some_iff.mp hr).1] at e
   rw [hr,← e]
   exact congrArg some (he k hq).symm
  ·rw [if_neg hij] at e;exact e
theorem view_there {i:Nat} {r':Row} {q:Part} {po:PObj} (e:view n (.tree t) q=some po):∃ po',view n (.tree (t.set i r')) q=some po':=by
 cases q with
|root=>exact ⟨_,rfl⟩
|rootd=>exact ⟨_,rfl⟩
|rows=>exact ⟨_,rfl⟩
|of j k=>
  obtain ⟨y,hy,_⟩:=Option.map_eq_some_iff.mp e
  have hlt:=(List.getElem?_eq_some_iff.mp hy).1
  exact ⟨_,Option.map_eq_some_iff.mpr ⟨(t.set i r')[j]'(by rw [List.length_set];exact hlt),List.getElem?_eq_getElem _,rfl⟩⟩
theorem set_self {i:Nat} {r r':Row} (hr:t[i]?=some r):(t.set i r')[i]?=some r':=by
 rw [List.getElem?_set,if_pos rfl,if_pos (List.getElem?_eq_some_iff.mp hr).1]
theorem view_row {i:Nat} {k:RK} {r:Row} (hr:t[i]?=some r):view n (.tree t) (.of i k)=some (rview n i k r):=congrArg (Option.map _) hr
noncomputable def Cfg.fold (C:Cfg) (n:Nat) (F:Nat→Part→Option Part) (B:Part→Option (Nat×Part)):Cfg:=
 {dom:=fun k p=>C.dom k p∨(k=n∧∃ q,B p=some q),rho:=fun k p=>if k=n then (B p).elim (C.rho k p) fun q=>C.rho q.1 q.2 else C.rho k p,
  own:=fun x=>match C.own x with
  |some (.mu k p)=>some ((F k p).elim (.mu k p) (.mu n))
  |o=>o
  fz:=C.fz }
theorem Cfg.fold_own {F:Nat→Part→Option Part} {B:Part→Option (Nat×Part)} {x:Addr} {k:Nat} {p:Part} (e:C.own x=some (.mu k p)):(C.fold n F B).own x=some ((F k p).elim (.mu k p) (.mu n)):=by
 show (match C.own x with|some (.mu k p)=>_|o=>o)=_
 rw [e]
theorem Cfg.fold_not {F:Nat→Part→Option Part} {B:Part→Option (Nat×Part)} {x:Addr} (e:¬ isMut (C.own x)):(C.fold n F B).own x=C.own x:=by
 show (match C.own x with|some (.mu k p)=>_|o=>o)=_
 rcases own_cases C x with q|q|q|q
 ·rw [q]
 ·rw [q]
 ·rw [q]
 ·exact absurd q e
theorem Cfg.fold_rho {F:Nat→Part→Option Part} {B:Part→Option (Nat×Part)} {p:Part} {q:Nat×Part} (e:B p=some q):(C.fold n F B).rho n p=C.rho q.1 q.2:=(if_pos rfl).trans (by rw [e];rfl)
theorem Cfg.fold_rho' {F:Nat→Part→Option Part} {B:Part→Option (Nat×Part)} {p:Part} {k:Nat} (e:k=n→B p=none):(C.fold n F B).rho k p=C.rho k p:=by
 by_cases q:k=n
 ·exact (if_pos q).trans (by rw [e q];rfl)
 ·exact if_neg q
theorem Ok.fold (O:Ok g C h a) {F:Nat→Part→Option Part} {B:Part→Option (Nat×Part)} {ao ao':AObj} {p0:Part}
  (hn:a[n]?=some ao) (hn':a'[n]?=some ao') (hlen:a'.length=a.length) (hA:∀ k,k≠n→(a'[k]?=a[k]?∧∀ p,F k p=none)∨a'[k]?=some .dead)
  (hF:∀ p,F n p=none) (hB:∀ p q,B p=some q→¬ C.dom n p∧F q.1 q.2=some p∧C.own (C.rho q.1 q.2)=some (.mu q.1 q.2))
  (h0:C.own (C.rho n p0)=some (.mu n p0)) (k0:∀ y o,y≠C.rho n p0→h.get? y=some o→h'.get? y=some o) (l0:∃ o,h'.get? (C.rho n p0)=some o)
  (hd:∀ p,(∃ po,view n ao p=some po)∨(∃ q,B p=some q)→∃ po',view n ao' p=some po') (hdead:ao≠.dead)
  (hv:More C (C.fold n F B)→∀ p po,view n ao' p=some po→((∃ q,B p=some q)∨∃ po',view n ao p=some po')∧PRep g (C.fold n F B) h' n p po):
  Ok g (C.fold n F B) h' a'∧Ext All true C h (C.fold n F B) h':=by
 have rh:∀ k p,C.dom k p→(C.fold n F B).rho k p=C.rho k p:=fun k p d=>Cfg.fold_rho' fun e=>by
  cases z:B p with
 |none=>rfl
 |some q=>exact absurd (e▸d) (hB p q z).1
 have M:More C (C.fold n F B):=⟨fun k p d=>⟨.inl d,rh k p d⟩,fun _ _ e=>e⟩
 have lv:∀ y o,h.get? y=some o→∃ o',h'.get? y=some o':=fun y o e=>by
  by_cases hy:y=C.rho n p0
  ·subst hy;exact l0
  ·exact ⟨o,k0 y o hy e⟩
 have ne0:∀ y,C.own y≠some (.mu n p0)→y≠C.rho n p0:=fun y q z=>q (z▸h0)
 have nm:∀ {y},¬ isMut (C.own y)→y≠C.rho n p0:=fun z=>ne0 _ fun q=>z (q▸trivial)
 have mt:∀ {y u},C.own y=u→¬ isMut u→(C.fold n F B).own y=u:=fun e z=>(Cfg.fold_not (e▸z)).trans e
 refine ⟨⟨fun x o e=>have z:=O.fz x o e;⟨k0 x o (nm (nmut_none z.2)) z.1,mt z.2 id⟩,O.base,fun x u e=>?_,fun k p e=>?_,fun k o p po e1 e2=>?_,fun k o p e1 e2=>?_⟩,⟨fun k p _=>M.rho k p,fun _ _ e=>e,fun x o e z _=>k0 x o (nm z) e,lv,fun x o e z=>mt z id,fun x e=>mt e id,fun x e=>mt e id,fun _ _ e=>.inl e,fun x e=>.inl ?_⟩⟩
 ·cases z:C.own x with
 |none=>rw [mt z id] at e;cases e
 |some u'=>obtain ⟨o,z⟩:=O.live x _ z;exact lv x o z
 ·rw [hlen]
  exact e.elim (O.N k p) fun e=>e.1▸(List.getElem?_eq_some_iff.mp hn).1
 ·by_cases hm:k=n
  ·subst hm
   obtain rfl:=Option.some.inj (hn'.symm.trans e1)
   obtain ⟨z1,z2⟩:=hv M p po e2
   cases q:B p with
  |some y=>
    obtain ⟨_,y2,y3⟩:=hB p y q
    refine ⟨.inr ⟨rfl,y,q⟩,?_,z2⟩
    rw [Cfg.fold_rho q,Cfg.fold_own y3,y2];rfl
  |none=>
    rcases z1 with ⟨y,z⟩|⟨po',z⟩
    ·exact nomatch q.symm.trans z
    ·obtain ⟨y0,y1,_⟩:=O.at_ k ao p po' hn z
     refine ⟨.inl y0,?_,z2⟩
     rw [rh k p y0,Cfg.fold_own y1,hF];rfl
  ·rcases hA k hm with ⟨z1,z2⟩|z1
   ·obtain ⟨y0,y1,y2⟩:=O.at_ k o p po (z1▸e1) e2
    refine ⟨.inl y0,?_,(y2.keep fun o e=>k0 _ o (ne0 _ (by rw [y1];intro z;cases z;exact hm rfl)) e).mono M y0⟩
    rw [rh k p y0,Cfg.fold_own y1,z2];rfl
   ·obtain rfl:=Option.some.inj (z1.symm.trans e1);exact nomatch e2
 ·by_cases hm:k=n
  ·subst hm
   obtain rfl:=Option.some.inj (hn'.symm.trans e1)
   rcases e2 with e2|e2
   ·exact .inr (hd p (.inl ((O.dv k ao p hn e2).resolve_left hdead)))
   ·exact .inr (hd p (.inr e2.2))
  ·rcases hA k hm with ⟨z1,z2⟩|z1
   ·exact O.dv k o p (z1▸e1) (e2.resolve_right fun z=>hm z.1)
   ·exact .inl (Option.some.inj (z1.symm.trans e1)).symm
 ·rcases own_cases C x with q|q|q|q
  ·exact nomatch (mt q id).symm.trans e
  ·exact q
  ·exact nomatch (mt q id).symm.trans e
  ·cases z:C.own x with
  |none=>rw [z] at q;exact q.elim
  |some u=>
    cases u with
   |lcl=>rfl
   |prv=>rw [z] at q;exact q.elim
   |mu k p=>
     rw [Cfg.fold_own z] at e
     cases y:F k p<;>(rw [y] at e;cases e)
noncomputable def srcOf (m:Nat):RK→Nat×Part
|.row=>(m,.root)
|.rowd=>(m,.rootd)
|.ch=>(m+1,.root)
|.att=>(m+2,.root)
|.nss=>(m+3,.root)
noncomputable def joinB (m i:Nat):Part→Option (Nat×Part)
|.of j k=>if j=i then some (srcOf m k) else none
|_=>none
noncomputable def joinF (m i k:Nat) (p:Part):Option Part:=match p with
|.root=>if k=m then some (.row i) else if k=m+1 then some (.ch i) else if k=m+2 then some (.att i) else if k=m+3 then some (.nss i) else none
|.rootd=>if k=m then some (.rowd i) else none
|_=>none
noncomputable def Cfg.join (C:Cfg) (n m i:Nat):Cfg:=C.fold n (joinF m i) (joinB m i)
noncomputable def rowFs' (r:Row) (m:Nat):List (Str×AV):=
 [(Str.ofString "kind",.str r.kind),(Str.ofString "name",.str r.name),(Str.ofString "uri",.str r.uri),(Str.ofString "local",.str r.loc),(Str.ofString "value",.str r.value),
  (Str.ofString "parent",parV r.par),(Str.ofString "children",.loc (m+1) .root),(Str.ofString "attributes",.loc (m+2) .root),(Str.ofString "namespaces",.loc (m+3) .root)]
noncomputable def bare (r:Row):Row:={ r with ch:=[],at_:=[],ns:=[] }
theorem joinB_of {i:Nat} {k:RK}:joinB m i (.of i k)=some (srcOf m k):=if_pos rfl
theorem joinB_inv {i:Nat} {p:Part} {q:Nat×Part} (e:joinB m i p=some q):∃ k,p=.of i k∧q=srcOf m k:=by
 cases p with
|of j k=>
  by_cases z:j=i
  ·subst z;exact ⟨k,rfl,(Option.some.inj (joinB_of.symm.trans e)).symm⟩
  ·exact nomatch (if_neg z).symm.trans e
|_=>exact nomatch e
theorem joinF_B {i:Nat} {k:RK}:joinF m i (srcOf m k).1 (srcOf m k).2=some (.of i k):=by cases k<;>simp [joinF,srcOf]
theorem joinF_no {i k:Nat} (hk:k<m∨m+3<k) (p:Part):joinF m i k p=none:=by
 have z (i:Nat) (hi:i≤3) (e:k=m+i):False:=hk.elim (fun h=>Nat.not_lt.mpr (Nat.le_add_right m i) (e▸h)) fun h=>Nat.not_lt.mpr (Nat.add_le_add_left hi m) (e▸h)
 have h:k≠m∧k≠m+1∧k≠m+2∧k≠m+3:=⟨z 0 (by decide),z 1 (by decide),z 2 (by decide),z 3 (by decide)⟩
 cases p<;>simp [joinF,h]
noncomputable def join4 (a:Hp) (n m:Nat) (t:List Row) (r:Row):Hp:=((((a.set m .dead).set (m+1) .dead).set (m+2) .dead).set (m+3) .dead).set n (.tree (t++[bare r]))
theorem join4_len {r:Row}:(join4 a n m t r).length=a.length:=by simp only [join4,List.length_set]
theorem join4_at {r:Row} (k:Nat) (hk:k≠n) (hl:m+3<a.length):((join4 a n m t r)[k]?=a[k]?∧(k<m∨m+3<k))∨(join4 a n m t r)[k]?=some .dead:=by
 unfold join4
 rw [List.getElem?_set_ne (Ne.symm hk)]
 clear hk
 have nx:∀ {a b:Nat},a≠b→m+a≠m+b:=fun h e=>h (Nat.add_left_cancel e)
 have lt:∀ {b:Nat},b≤3→m+b<a.length:=fun h=>Nat.lt_of_le_of_lt (Nat.add_le_add_left h m) hl
 by_cases h:k<m∨m+3<k
 ·refine .inl ⟨?_,h⟩
  have ne:∀ {b:Nat},b≤3→m+b≠k:=fun hb e=>h.elim (fun z=>Nat.not_lt.mpr (Nat.le_add_right m _) (e▸z)) fun z=>Nat.not_lt.mpr (Nat.add_le_add_left hb m) (e▸z)
  rw [List.getElem?_set_ne (ne (b:=3) (by decide)),List.getElem?_set_ne (ne (b:=2) (by decide)),List.getElem?_set_ne (ne (b:=1) (by decide)),List.getElem?_set_ne (show m≠k from ne (b:=0) (by decide))]
 ·have:k=m+3∨k=m+2∨k=m+1∨k=m:=by clear hl nx lt;omega
  clear h
  rcases this with rfl|rfl|rfl|rfl
  ·exact .inr (List.getElem?_set_self (by simp only [List.length_set];exact hl))
  ·rw [List.getElem?_set_ne (nx (by decide))];exact .inr (List.getElem?_set_self (by simp only [List.length_set];exact lt (by decide)))
  ·rw [List.getElem?_set_ne (nx (by decide)),List.getElem?_set_ne (nx (by decide))];exact .inr (List.getElem?_set_self (by simp only [List.length_set];exact lt (by decide)))
  ·rw [List.getElem?_set_ne (Nat.ne_of_gt (Nat.lt_add_of_pos_right (by decide))),List.getElem?_set_ne (Nat.ne_of_gt (Nat.lt_add_of_pos_right (by decide))),List.getElem?_set_ne (Nat.ne_of_gt (Nat.lt_add_of_pos_right (by decide)))];exact .inr (List.getElem?_set_self (lt (b:=0) (by decide)))
noncomputable def freshO (m:Nat) (r:Row):RK→PObj
|.row=>.inst C_Row .rootd
|.rowd=>.nsd (rowFs' r m)
|_=>.list []
structure Fresh4 (a:Hp) (m:Nat) (r:Row):Prop where
 i:a[m]?=some (.inst C_Row (rowFs' r m))
 c:a[m+1]?=some (.list [])
 d:a[m+2]?=some (.list [])
 e:a[m+3]?=some (.list [])
def At (g:Cx) (C:Cfg) (h:Heap) (n:Nat) (p:Part) (po:PObj):Prop:=C.dom n p∧C.own (C.rho n p)=some (.mu n p)∧PRep g C h n p po
theorem Fresh4.at {r:Row} (F:Fresh4 a m r) (O:Ok g C h a):∀ k,At g C h (srcOf m k).1 (srcOf m k).2 (freshO m r k)
|.row=>O.at_ _ _ .root _ F.i rfl
|.rowd=>O.at_ _ _ .rootd _ F.i rfl
|.ch=>O.at_ _ _ .root _ F.c rfl
|.att=>O.at_ _ _ .root _ F.d rfl
|.nss=>O.at_ _ _ .root _ F.e rfl
theorem loc_to {l:Nat} {p q:Part} {u:Value} (d:C'.dom n p∧C'.rho n p=C.rho l q) (hu:VRep C (.loc l q) u):VRep C' (.loc n p) u:=by
 cases hu
 exact d.2▸.loc n p d.1
theorem NPairs.consM {k:Str} {x x':AV} {xs xs':List (Str×AV)} {es:List DictEntry} (R:NPairs C ((k,x)::xs) es) (f:∀ u,VRep C x u→VRep C' x' u) (r:∀ es,NPairs C xs es→NPairs C' xs' es):NPairs C' ((k,x')::xs') es:=by
 cases R with
|cons a b=>exact .cons (f _ a) (r _ b)
theorem rowFs_to {i:Nat} {r:Row} {es:List DictEntry} (M:More C C') (d:∀ k,C'.dom n (.of i k)∧C'.rho n (.of i k)=C.rho (srcOf m k).1 (srcOf m k).2) (R:NPairs C (rowFs' r m) es):NPairs C' (rowFs n i (bare r)) es:=
 R.consM (fun _=>.mono M) fun _ R=>R.consM (fun _=>.mono M) fun _ R=>R.consM (fun _=>.mono M) fun _ R=>R.consM (fun _=>.mono M) fun _ R=>R.consM (fun _=>.mono M) fun _ R=>R.consM (fun _=>.mono M) fun _ R=>
 R.consM (fun _=>loc_to (d .ch)) fun _ R=>R.consM (fun _=>loc_to (d .att)) fun _ R=>R.consM (fun _=>loc_to (d .nss)) fun _ R=>R.mono M
theorem join_prep {i:Nat} {r:Row} (M:More C C') (d:∀ k,C'.dom n (.of i k)∧C'.rho n (.of i k)=C.rho (srcOf m k).1 (srcOf m k).2) (F:∀ k,At g C h (srcOf m k).1 (srcOf m k).2 (freshO m r k))
  (kp:∀ k o,h.get? (C.rho (srcOf m k).1 (srcOf m k).2)=some o→h'.get? (C.rho (srcOf m k).1 (srcOf m k).2)=some o) (k:RK):PRep g C' h' n (.of i k) (rview n i k (bare r)):=by
 have ls:∀ {k},PRep g C h (srcOf m k).1 (srcOf m k).2 (.list [])→PRep g C' h' n (.of i k) (.list []):=fun {k} w_=>by
  obtain ⟨vs,j,z1,z2,z3⟩:=w_
  cases z2
  exact ⟨[],j,(d k).2.symm▸kp k _ z1,.nil,z3⟩
 have f:=(F k).2.2
 have q:=kp k
 cases k with
|row=>exact ⟨by rw [(d .row).2,(d .rowd).2];exact q _ f.1,(d .rowd).1⟩
|rowd=>obtain ⟨es,j,z1,z2⟩:=f;exact ⟨es,j,(d .rowd).2.symm▸q _ z1,rowFs_to M d z2⟩
|ch=>exact ls f
|att=>exact ls f
|nss=>exact ls f
theorem Ok.join (O:Ok g C h a) {r:Row} (e1:a[n]?=some (.tree t)) (e2:Fresh4 a m r) (hnm:n<m) {us:List Value} {k':Nat}
  (hus:VReps C ((List.range t.length).map fun i=>.loc n (.row i)) us) (k0:∀ y o,y≠C.rho n .rows→h.get? y=some o→h'.get? y=some o)
  (hr':h'.get? (C.rho n .rows)=some (lstObj (us++[.ref (C.rho m .root)]) k')) (hl:t.length+1≤cap):Ok g (C.join n m t.length) h' (join4 a n m t r)∧Ext All true C h (C.join n m t.length) h':=by
 have A0:=O.at_ n _ .rows _ e1 rfl
 have F:=e2.at O
 have last:(t++[bare r])[t.length]?=some (bare r):=by rw [List.getElem?_append_right (Nat.le_refl _),Nat.sub_self];rfl
 have nk:∀ {k p y},C.own y=some (.mu k p)→k≠n∨p≠.rows→y≠C.rho n .rows:=fun e z q=>by
  rw [q,A0.2.1] at e;cases e;exact z.elim (fun z=>z rfl) fun z=>z rfl
 have hs:∀ k,(srcOf m k).1≠n:=fun k=>by cases k<;>first|exact Nat.ne_of_gt hnm|exact Nat.ne_of_gt (Nat.lt_of_lt_of_le hnm (Nat.le_add_right ..))
 refine O.fold (ao':=.tree (t++[bare r])) (F:=joinF m t.length) (B:=joinB m t.length) (p0:=.rows) e1 (List.getElem?_set_self (by simp only [List.length_set];exact (List.getElem?_eq_some_iff.mp e1).1)) join4_len (fun k hk=>(join4_at k hk (List.getElem?_eq_some_iff.mp e2.e).1).imp (fun z=>⟨z.1,joinF_no z.2⟩) id) (joinF_no (.inl hnm)) (fun p q hq=>?_) A0.2.1 k0 ⟨_,hr'⟩ (fun p hp=>?_) (fun z=>nomatch z) (fun M p po hp=>?_)
 ·obtain ⟨k,rfl,rfl⟩:=joinB_inv hq
  refine ⟨fun hdm=>?_,joinF_B,(F k).2.1⟩
  rcases O.dv n _ _ e1 hdm with z|⟨po,z⟩
  ·cases z
  ·exact nomatch (congrArg (Option.map (rview n t.length k)) (List.getElem?_eq_none (Nat.le_refl t.length))).symm.trans z
 ·rcases hp with ⟨po,hp⟩|⟨q,hq⟩
  ·cases p with
  |root=>exact ⟨_,rfl⟩
  |rootd=>exact ⟨_,rfl⟩
  |rows=>exact ⟨_,rfl⟩
  |of j k=>
    obtain ⟨y,hy,_⟩:=Option.map_eq_some_iff.mp hp
    exact ⟨_,Option.map_eq_some_iff.mpr ⟨y,(List.getElem?_append_left (List.getElem?_eq_some_iff.mp hy).1).trans hy,rfl⟩⟩
  ·obtain ⟨k,rfl,_⟩:=joinB_inv hq
   exact ⟨_,view_row last⟩
 ·have M:More C (C.join n m t.length):=M
  have old:∀ {p po},p≠.rows→view n (.tree t) p=some po→PRep g (C.join n m t.length) h' n p po:=fun hp e=>
   have y:=O.at_ n _ _ _ e1 e
   (y.2.2.keep fun o e=>k0 _ o (nk y.2.1 (.inr hp)) e).mono M y.1
  have dd:∀ k,(C.join n m t.length).dom n (.of t.length k)∧(C.join n m t.length).rho n (.of t.length k)=C.rho (srcOf m k).1 (srcOf m k).2:=fun k=>⟨.inr ⟨rfl,_,joinB_of⟩,Cfg.fold_rho joinB_of⟩
  cases p with
 |root=>exact ⟨.inr ⟨_,rfl⟩,old (fun z=>nomatch z) hp⟩
 |rootd=>exact ⟨.inr ⟨_,rfl⟩,old (fun z=>nomatch z) hp⟩
 |rows=>
   obtain rfl:=Option.some.inj hp
   refine ⟨.inr ⟨_,rfl⟩,us++[.ref (C.rho m .root)],k',(M.rho n .rows A0.1).2.symm▸hr',?_,?_⟩
   ·rw [List.length_append,List.length_singleton,List.range_succ,List.map_append]
    exact (hus.mono M).append (.cons (loc_to (dd .row) (.loc m .root (F .row).1)) .nil)
   ·rw [List.length_map,List.length_range,List.length_append];exact hl
 |of j k=>
   by_cases hj:j<t.length
   ·have hp':view n (.tree t) (.of j k)=some po:=(congrArg (Option.map _) (List.getElem?_append_left hj).symm).trans hp
    exact ⟨.inr ⟨_,hp'⟩,old (fun z=>nomatch z) hp'⟩
   ·obtain ⟨y,hy,_⟩:=Option.map_eq_some_iff.mp hp
    have hlt:=(List.getElem?_eq_some_iff.mp hy).1
    rw [List.length_append] at hlt
    obtain rfl:j=t.length:=Nat.le_antisymm (Nat.le_of_lt_succ hlt) (Nat.le_of_not_lt hj)
    obtain rfl:=Option.some.inj ((view_row last).symm.trans hp)
    exact ⟨.inl ⟨_,joinB_of⟩,join_prep M dd F (fun k o e=>k0 _ o (nk (F k).2.1 (.inl (hs k))) e) k⟩
noncomputable def treeB (m:Nat):Part→Option (Nat×Part)
|.rows=>some (m,.root)
|_=>none
noncomputable def treeF (m k:Nat):Part→Option Part
|.root=>if k=m then some .rows else none
|_=>none
theorem treeB_inv {p:Part} {q:Nat×Part} (e:treeB m p=some q):p=.rows∧q=(m,.root):=by
 cases p with
|rows=>exact ⟨rfl,(Option.some.inj e).symm⟩
|_=>cases e
theorem treeF_no {k:Nat} {p:Part} (hk:k≠m):treeF m k p=none:=by
 cases p with
|root=>exact if_neg hk
|_=>rfl
theorem Ok.tree (O:Ok g C h a) (e1:a[n]?=some (.inst C_Tree [(Str.ofString "rows",.loc (n+1) .root)])) (e2:a[n+1]?=some (.list [])):∃ C',Ok g C' h ((a.set (n+1) .dead).set n (.tree []))∧Ext All true C h C' h:=by
 have A1:=O.at_ n _ .root _ e1 rfl
 have A2:=O.at_ n _ .rootd _ e1 rfl
 have A3:=O.at_ _ _ .root _ e2 rfl
 have hlt:=(List.getElem?_eq_some_iff.mp e1).1
 have hltm:=(List.getElem?_eq_some_iff.mp e2).1
 refine ⟨_,O.fold (ao':=.tree []) (F:=treeF (n+1)) (B:=treeB (n+1)) (p0:=.root) e1 (List.getElem?_set_self (by simp only [List.length_set];exact hlt)) (by simp only [List.length_set]) (fun k hk=>?_) (fun p=>treeF_no (Nat.ne_of_lt (Nat.lt_succ_self _))) (fun p q e=>?_) A1.2.1 (fun _ _ _ e=>e) ⟨_,A1.2.2.1⟩ (fun p hp=>?_) (fun z=>nomatch z) (fun M p po hp=>?_)⟩
 ·rw [List.getElem?_set_ne (Ne.symm hk)]
  by_cases z:n+1=k
  ·subst z;right;exact List.getElem?_set_self hltm
  ·exact .inl ⟨List.getElem?_set_ne z,fun p=>treeF_no (Ne.symm z)⟩
 ·obtain ⟨rfl,rfl⟩:=treeB_inv e
  refine ⟨fun hdm=>?_,if_pos rfl,A3.2.1⟩
  rcases O.dv n _ _ e1 hdm with z|⟨po,z⟩
  ·cases z
  ·cases z
 ·rcases hp with ⟨po,hp⟩|⟨q,e⟩
  ·cases p<;>first|exact ⟨_,rfl⟩|cases hp
  ·obtain ⟨rfl,_⟩:=treeB_inv e;exact ⟨_,rfl⟩
 ·cases p with
 |root=>cases hp;exact ⟨.inr ⟨_,rfl⟩,PRep.mono M A1.1 (po:=.inst C_Tree .rootd) A1.2.2⟩
 |rootd=>
   cases hp
   obtain ⟨es,ek,n7,n8⟩:=A2.2.2
   refine ⟨.inr ⟨_,rfl⟩,es,ek,?_,?_⟩
   ·rw [Cfg.fold_rho']
    ·exact n7
    ·exact fun _=>rfl
   exact n8.consM (fun _=>loc_to ⟨.inr ⟨rfl,_,rfl⟩,Cfg.fold_rho (q:=(n+1,.root)) rfl⟩) fun _ R=>R.mono M
 |rows=>
   cases hp
   obtain ⟨vs,i,z1,z2,z3⟩:=A3.2.2
   cases z2
   refine ⟨.inl ⟨_,rfl⟩,[],i,?_,.nil,z3⟩
   rw [Cfg.fold_rho (q:=(n+1,.root)) rfl]
   exact z1
 |of j k=>cases hp
end
noncomputable def trav {α β:Type} (f:α→Option β):List α→Option (List β)
|[]=>some []
|x::r=>(f x).bind fun y=>(trav f r).map (y::·)
theorem trav_cons {α β:Type} {f:α→Option β} {x:α} {r:List α} {l:List β} (e:trav f (x::r)=some l):∃ y l',f x=some y∧trav f r=some l'∧l=y::l':=by
 obtain ⟨y,h1,h2⟩:=Option.bind_eq_some_iff.mp e
 obtain ⟨l',h3,h4⟩:=Option.map_eq_some_iff.mp h2
 exact ⟨y,l',h1,h3,h4.symm⟩
theorem trav_len {α β:Type} {f:α→Option β}:∀ {l:List α} {l':List β},trav f l=some l'→l'.length=l.length:=by
 intro l
 induction l with
|nil=>intro l' e;cases e;rfl
|cons x r ih=>intro l' e;obtain ⟨y,l₁,_,h,rfl⟩:=trav_cons e;exact congrArg (·+1) (ih h)
theorem trav_get {α β:Type} {f:α→Option β}:∀ {l:List α} {l':List β},trav f l=some l'→∀ {i:Nat} {y:β},l'[i]?=some y→∃ x,l[i]?=some x∧f x=some y:=by
 intro l
 induction l with
|nil=>intro l' e;cases e;exact fun h=>nomatch h
|cons x r ih=>
  intro l' e i y hy
  obtain ⟨z,l₁,h0,h,rfl⟩:=trav_cons e
  cases i with
 |zero=>exact ⟨x,rfl,(Option.some.inj hy:z=y)▸h0⟩
 |succ i=>exact ih h hy
noncomputable def mapV (f:Nat→Option Nat):AV→Option AV
|.loc n p=>(f n).map (.loc · p)
|.tup xs=>bif xs.all flat then some (.tup xs) else none
|.lst xs=>some (.lst xs)
|v=>some v
noncomputable def mapP {α:Type} (f:Nat→Option Nat) (p:α×AV):Option (α×AV):=(mapV f p.2).map fun v=>(p.1,v)
noncomputable def mapO (f:Nat→Option Nat):AObj→Option AObj
|.list xs=>(trav (mapV f) xs).map .list
|.dictI es=>(trav (mapP f) es).map .dictI
|.inst C fs=>(trav (mapP f) fs).map (.inst C)
|o=>some o
structure Tr (f:Nat→Option Nat) (C C':Cfg):Prop where
 loc:∀ n m p,f n=some m→C.dom n p→C'.dom m p∧C'.rho m p=C.rho n p
 fz:∀ x o,C.fz x=some o→C'.fz x=some o
section
variable {g:Cx} {D:Nat→Prop} {b:Bool} {C C' C₀ C₁:Cfg} {h h' h₀ h₁:Heap} {a a' a₁:Hp} {n m:Nat} {σ σ':St} {t:List Row} {f f':Nat→Option Nat}
theorem bif_some {α:Type} {c:Bool} {x y:α} (e:(bif c then some x else none)=some y):c=true∧x=y:=by
 cases c with
|true=>exact ⟨rfl,Option.some.inj e⟩
|false=>cases e
theorem flat_rep {v:AV} {u:Value} (e:flat v=true) (r:VRep C v u):VRep C' v u:=by
 cases r with
|val=>exact .val _
|int=>exact .int _ _
|str s t h=>exact .str _ _ h
|loc=>cases e
|tup=>cases e
|lst=>cases e
theorem flats_rep {vs:List AV} {us:List Value} (e:vs.all flat=true) (r:VReps C vs us):VReps C' vs us:=by
 refine r.ind (P:=fun vs us=>vs.all flat=true→VReps C' vs us) (fun _=>.nil) (fun x v xs vs h _ q e=>?_) e
 rw [List.all_cons,Bool.and_eq_true] at e
 exact .cons (flat_rep e.1 h) (q e.2)
theorem Tr.v (T:Tr f C C') {v v':AV} {u:Value} (e:mapV f v=some v') (r:VRep C v u):VRep C' v' u:=by
 cases r with
|val=>cases e;exact .val _
|int=>cases e;exact .int _ _
|str s t h=>cases e;exact .str _ _ h
|loc n p d=>
  obtain ⟨m,e1,rfl⟩:=Option.map_eq_some_iff.mp e
  have z:=T.loc n m p e1 d
  exact z.2▸.loc m p z.1
|tup h r l=>obtain ⟨z,rfl⟩:=bif_some e;exact .tup (T.fz _ _ h) (flats_rep z r) l
|lst h r z l=>cases e;exact .lst (T.fz _ _ h) (flats_rep z r) z l
theorem Tr.vs (T:Tr f C C') {vs vs':List AV} {us:List Value} (e:trav (mapV f) vs=some vs') (r:VReps C vs us):VReps C' vs' us:=by
 refine r.ind (P:=fun vs us=>∀ vs',trav (mapV f) vs=some vs'→VReps C' vs' us) (fun vs' e=>?_) (fun x v xs vs h _ q vs' e=>?_) vs' e
 ·cases e;exact .nil
 ·obtain ⟨y,l,h1,h2,rfl⟩:=trav_cons e
  exact .cons (T.v h1 h) (q _ h2)
theorem Tr.ns (T:Tr f C C') {fs fs':List (Str×AV)} {es:List DictEntry} (e:trav (mapP f) fs=some fs') (r:NPairs C fs es):NPairs C' fs' es:=by
 induction r generalizing fs' with
|nil=>cases e;exact .nil
|cons h _ q=>
  obtain ⟨y,l,h1,h2,rfl⟩:=trav_cons e
  obtain ⟨v,h3,rfl⟩:=Option.map_eq_some_iff.mp h1
  exact .cons (T.v h3 h) (q h2)
theorem Tr.is (T:Tr f C C') {fs fs':List (Int×AV)} {es:List (Int×Value)} (e:trav (mapP f) fs=some fs') (r:IPairs C fs es):IPairs C' fs' es:=by
 induction r generalizing fs' with
|nil=>cases e;exact .nil
|cons h _ q=>
  obtain ⟨y,l,h1,h2,rfl⟩:=trav_cons e
  obtain ⟨v,h3,rfl⟩:=Option.map_eq_some_iff.mp h1
  exact .cons (T.v h3 h) (q h2)
theorem Tr.list (T:Tr f C C') {p:Part} {xs xs':List AV} (hp:C'.rho m p=C.rho n p) (e:trav (mapV f) xs=some xs') (R:PRep g C h n p (.list xs)):PRep g C' h m p (.list xs'):=by
 obtain ⟨us,k,z1,z2,z3⟩:=R
 exact ⟨us,k,hp▸z1,T.vs e z2,trav_len e▸z3⟩
theorem trav_flat:∀ {xs:List AV},xs.all flat=true→trav (mapV f) xs=some xs:=by
 intro xs
 induction xs with
|nil=>exact fun _=>rfl
|cons x r ih=>
  intro e
  rw [List.all_cons,Bool.and_eq_true] at e
  have:mapV f x=some x:=by
   have:=e.1
   cases x<;>first|rfl|cases this
  rw [trav,this,ih e.2];rfl
theorem trav_prs:∀ {l:SS},trav (mapV f) (prsAV l)=some (prsAV l):=by
 intro l
 induction l with
|nil=>rfl
|cons x r ih=>rw [prsAV,List.map_cons,trav];exact (congrArg (Option.map _) ih)
theorem all_map {α:Type} {k:α→AV} (hk:∀ x,flat (k x)=true) (l:List α):(l.map k).all flat=true:=by
 rw [List.all_map];exact List.all_eq_true.mpr fun x _=>hk x
theorem trav_locs {q:Nat→Part} (hn:f n=some m):∀ {l:List Nat},trav (mapV f) (l.map fun i=>.loc n (q i))=some (l.map fun i=>.loc m (q i)):=by
 intro l
 induction l with
|nil=>rfl
|cons x r ih=>rw [List.map_cons,trav,mapV,hn];exact (congrArg (Option.map _) ih)
noncomputable def rootO:AObj→Bool
|.inst _ _=>false
|.tree _=>false
|_=>true
theorem view_root {o:AObj} {p:Part} {po:PObj} (h:rootO o=true) (e:view n o p=some po):p=.root:=by
 cases p with
|root=>rfl
|_=>cases o<;>first|(cases h;done)|(cases e;done)
theorem Tr.view (T:Tr f C C') {o o':AObj} (e:mapO f o=some o') (hn:f n=some m) {p:Part} {po':PObj} (hv:view m o' p=some po'):∃ po,view n o p=some po∧(C.dom n p→PRep g C h n p po→PRep g C' h m p po'):=by
 have ls:∀ {xs xs' p},trav (mapV f) xs=some xs'→C.dom n p→PRep g C h n p (.list xs)→PRep g C' h m p (.list xs'):=fun e d=>T.list (T.loc n m _ hn d).2 e
 cases o with
|list xs=>obtain ⟨xs',e',rfl⟩:=Option.map_eq_some_iff.mp e;obtain rfl:=view_root rfl hv;obtain rfl:=Option.some.inj hv;exact ⟨_,rfl,ls e'⟩
|txs l=>cases e;obtain rfl:=view_root rfl hv;obtain rfl:=Option.some.inj hv;exact ⟨_,rfl,ls (xs:=strsAV l) (trav_flat (all_map (fun _=>rfl) l))⟩
|ixs l=>cases e;obtain rfl:=view_root rfl hv;obtain rfl:=Option.some.inj hv;exact ⟨_,rfl,ls (xs:=intsAV l) (trav_flat (all_map (fun _=>rfl) l))⟩
|prs l=>cases e;obtain rfl:=view_root rfl hv;obtain rfl:=Option.some.inj hv;exact ⟨_,rfl,ls (xs:=prsAV l) trav_prs⟩
|dss l=>cases e;obtain rfl:=view_root rfl hv;obtain rfl:=Option.some.inj hv;exact ⟨_,rfl,fun d w_=>by obtain ⟨kvs,z1,z2,z3⟩:=w_;exact ⟨kvs,(T.loc n m _ hn d).2▸z1,z2,(T.loc n m _ hn d).2▸z3⟩⟩
|dictI es=>
  obtain ⟨es',e',rfl⟩:=Option.map_eq_some_iff.mp e
  obtain rfl:=view_root rfl hv
  obtain rfl:=Option.some.inj hv
  exact ⟨_,rfl,fun d w_=>by obtain ⟨kvs,z1,z2,z3⟩:=w_;exact ⟨kvs,(T.loc n m _ hn d).2▸z1,T.is e' z2,(T.loc n m _ hn d).2▸z3⟩⟩
|src x y=>cases e;obtain rfl:=view_root rfl hv;obtain rfl:=Option.some.inj hv;exact ⟨_,rfl,fun d w_=>by obtain ⟨t,u,i,z1,z2⟩:=w_;exact ⟨t,u,i,(T.loc n m _ hn d).2▸z1,z2⟩⟩
|dead=>cases e;cases hv
|inst c fs=>
  obtain ⟨fs',e',rfl⟩:=Option.map_eq_some_iff.mp e
  cases p<;>cases hv
  ·exact ⟨_,rfl,fun d w_=>by obtain ⟨z1,z2⟩:=w_;exact ⟨by rw [(T.loc n m _ hn d).2,(T.loc n m _ hn z2).2];exact z1,(T.loc n m _ hn z2).1⟩⟩
  ·exact ⟨_,rfl,fun d w_=>by obtain ⟨es,k,z1,z2⟩:=w_;exact ⟨es,k,(T.loc n m _ hn d).2▸z1,T.ns e' z2⟩⟩
|tree t=>
  cases e
  have lc:∀ q,trav (mapV f) [AV.loc n q]=some [.loc m q]:=fun q=>by rw [trav,mapV,hn];rfl
  cases p with
 |root=>cases hv;exact ⟨_,rfl,fun d w_=>by obtain ⟨z1,z2⟩:=w_;exact ⟨by rw [(T.loc n m _ hn d).2,(T.loc n m _ hn z2).2];exact z1,(T.loc n m _ hn z2).1⟩⟩
 |rootd=>cases hv;exact ⟨_,rfl,fun d w_=>by obtain ⟨es,k,z1,z2⟩:=w_;exact ⟨es,k,(T.loc n m _ hn d).2▸z1,T.ns (by rw [trav,mapP,mapV,hn];rfl) z2⟩⟩
 |rows=>cases hv;exact ⟨_,rfl,ls (trav_locs hn)⟩
 |of i k=>
   obtain ⟨r,hr,rfl⟩:=Option.map_eq_some_iff.mp hv
   refine ⟨_,Option.map_eq_some_iff.mpr ⟨r,hr,rfl⟩,?_⟩
   cases k with
  |row=>exact fun d w_=>by obtain ⟨z1,z2⟩:=w_;exact ⟨by rw [(T.loc n m _ hn d).2,(T.loc n m _ hn z2).2];exact z1,(T.loc n m _ hn z2).1⟩
  |rowd=>
    rintro d ⟨es,j,z1,z2⟩
    refine ⟨es,j,(T.loc n m _ hn d).2▸z1,?_⟩
    have M:∀ {x y},mapV f x=some y→∀ u,VRep C x u→VRep C' y u:=fun e _=>T.v e
    have L:∀ q,mapV f (.loc n q)=some (.loc m q):=fun q=>by rw [mapV,hn];rfl
    exact z2.consM (M rfl) fun _ R=>R.consM (M rfl) fun _ R=>R.consM (M rfl) fun _ R=>R.consM (M rfl) fun _ R=>R.consM (M rfl) fun _ R=>R.consM (M (by cases r.par<;>rfl)) fun _ R=>R.consM (M (L _)) fun _ R=>R.consM (M (L _)) fun _ R=>R.consM (M (L _)) fun _ R=>T.ns rfl R
  |ch=>exact ls (trav_flat (all_map (fun _=>rfl) _))
  |att=>exact ls (trav_flat (all_map (fun _=>rfl) _))
  |nss=>exact ls (trav_flat (all_map (fun _=>rfl) _))
theorem view_back {o o':AObj} (e:mapO f o=some o') {p:Part} {po:PObj} (hv:view n o p=some po):∃ po',view m o' p=some po':=by
 cases o with
|list xs=>obtain ⟨xs',_,rfl⟩:=Option.map_eq_some_iff.mp e;obtain rfl:=view_root rfl hv;exact ⟨_,rfl⟩
|dictI xs=>obtain ⟨xs',_,rfl⟩:=Option.map_eq_some_iff.mp e;obtain rfl:=view_root rfl hv;exact ⟨_,rfl⟩
|inst c xs=>obtain ⟨xs',_,rfl⟩:=Option.map_eq_some_iff.mp e;cases p<;>cases hv<;>exact ⟨_,rfl⟩
|tree t=>
  cases e
  cases p with
 |of i k=>obtain ⟨r,hr,_⟩:=Option.map_eq_some_iff.mp hv;exact ⟨_,Option.map_eq_some_iff.mpr ⟨r,hr,rfl⟩⟩
 |_=>exact ⟨_,rfl⟩
|dead=>cases hv
|_=>cases e;obtain rfl:=view_root rfl hv;exact ⟨_,rfl⟩
theorem mapO_dead {o:AObj} (e:mapO f .dead=some o):o=.dead:=(Option.some.inj e).symm
end
noncomputable def pos (n:Nat):List Nat→Option Nat
|[]=>none
|x::r=>bif Nat.beq x n then some 0 else (pos n r).map Nat.succ
theorem pos_get {n:Nat}:∀ {κ:List Nat} {i:Nat},pos n κ=some i→κ[i]?=some n:=by
 intro κ
 induction κ with
|nil=>exact fun e=>nomatch e
|cons x r ih=>
  intro i e
  rw [pos] at e
  cases h:Nat.beq x n with
 |true=>rw [h] at e;cases e;rw [Nat.eq_of_beq_eq_true h];rfl
 |false=>
   rw [h] at e
   obtain ⟨j,e1,rfl⟩:=Option.map_eq_some_iff.mp e
   exact ih e1
theorem get_pos {n:Nat}:∀ {κ:List Nat},κ.Nodup→∀ {i:Nat},κ[i]?=some n→pos n κ=some i:=by
 intro κ
 induction κ with
|nil=>exact fun _ _ e=>nomatch e
|cons x r ih=>
  intro hn i e
  rw [List.nodup_cons] at hn
  cases i with
 |zero=>cases e;rw [pos,Nat.beq_refl];rfl
 |succ i=>
   have e:r[i]?=some n:=e
   have:Nat.beq x n=false:=Bool.eq_false_iff.mpr fun z=>hn.1 (Nat.eq_of_beq_eq_true z▸List.mem_of_getElem? e)
   rw [pos,this,ih hn.2 e];rfl
noncomputable def Cfg.ren (C:Cfg) (f b:Nat→Option Nat):Cfg:=
 {dom:=fun m p=>∃ n,b m=some n∧C.dom n p,rho:=fun m p=>(b m).elim 0 fun n=>C.rho n p,
  own:=fun x=>match C.own x with
  |some (.mu n p)=>some ((f n).elim .prv (.mu · p))
  |o=>o
  fz:=C.fz }
section
variable {g:Cx} {D:Nat→Prop} {C C' C₀ C₁:Cfg} {h h' h₀ h₁:Heap} {a a' a₁ a₂:Hp} {n m:Nat} {σ σ':St} {f b f₂ b₂:Nat→Option Nat}
theorem Cfg.ren_mu {x:Addr} {p:Part} (e:C.own x=some (.mu n p)):(C.ren f b).own x=some ((f n).elim .prv (.mu · p)):=by
 show (match C.own x with|some (.mu n p)=>_|o=>o)=_
 rw [e]
theorem Cfg.ren_not {x:Addr} {o:Option Own} (e:C.own x=o) (hm:¬ isMut o):(C.ren f b).own x=o:=by
 show (match C.own x with|some (.mu n p)=>_|o=>o)=_
 rw [e]
 cases o with
|none=>rfl
|some u=>cases u with
 |mu=>exact absurd trivial hm
 |_=>rfl
theorem mut_inv {o:Option Own} (h:isMut o):∃ n p,o=some (.mu n p):=by
 cases o with
|none=>exact h.elim
|some u=>cases u with
 |mu n p=>exact ⟨n,p,rfl⟩
 |_=>exact h.elim
theorem ren_none {x:Addr} (e:(C.ren f b).own x=none):C.own x=none:=by
 rcases own_cases C x with q|q|q|q
 ·exact q
 ·exact nomatch (Cfg.ren_not q id).symm.trans e
 ·exact nomatch (Cfg.ren_not q id).symm.trans e
 ·obtain ⟨n,p,z⟩:=mut_inv q;exact nomatch (Cfg.ren_mu z).symm.trans e
theorem ren_lcl {x:Addr} (e:(C.ren f b).own x=some .lcl):C.own x=some .lcl:=by
 rcases own_cases C x with q|q|q|q
 ·exact nomatch (Cfg.ren_not q id).symm.trans e
 ·exact q
 ·exact nomatch (Cfg.ren_not q id).symm.trans e
 ·obtain ⟨n,p,z⟩:=mut_inv q
  rw [Cfg.ren_mu z] at e
  cases y:f n<;>(rw [y] at e;cases e)
theorem ren_mut {x:Addr} (e:¬ isMut (C.own x)):(C.ren f b).own x=C.own x:=Cfg.ren_not rfl e
theorem ren_mut' {x:Addr} (e:isMut ((C.ren f b).own x)):isMut (C.own x):=Classical.byContradiction fun q=>q (ren_mut q▸e)
theorem Tr.ren (inv:∀ n m,f n=some m↔b m=some n):Tr f C (C.ren f b):=⟨fun n m p e d=>have e:=(inv n m).mp e;⟨⟨n,e,d⟩,by show (b m).elim 0 _=_;rw [e];rfl⟩,fun _ _ e=>e⟩
theorem Ok.ren (O:Ok g C h a) (inv:∀ n m,f n=some m↔b m=some n) (ha:∀ m o',a'[m]?=some o'→∃ n o,b m=some n∧a[n]?=some o∧mapO f o=some o') (hb:∀ m n,b m=some n→m<a'.length):Ok g (C.ren f b) h a':=by
 refine ⟨fun x o e=>have z:=O.fz x o e;⟨z.1,Cfg.ren_not z.2 id⟩,O.base,fun x u e=>?_,fun m p w_=>by obtain ⟨n,e,_⟩:=w_;exact hb m n e,fun m o' p po' e1 e2=>?_,fun m o' p e1 ⟨n,e2,d⟩=>?_⟩
 ·cases q:C.own x with
 |none=>exact nomatch (Cfg.ren_not q id).symm.trans e
 |some u'=>exact O.live x u' q
 ·obtain ⟨n,o,z1,z2,z3⟩:=ha m o' e1
  obtain ⟨po,y1,y2⟩:=(Tr.ren (C:=C) inv).view (g:=g) (h:=h) z3 ((inv n m).mpr z1) e2
  obtain ⟨q0,q1,q2⟩:=O.at_ n o p po z2 y1
  have L:=(Tr.ren (C:=C) inv).loc n m p ((inv n m).mpr z1) q0
  refine ⟨L.1,?_,y2 q0 q2⟩
  rw [L.2,Cfg.ren_mu q1,(inv n m).mpr z1];rfl
 ·obtain ⟨n',o,z1,z2,z3⟩:=ha m o' e1
  obtain rfl:=Option.some.inj (z1.symm.trans e2)
  rcases O.dv n' o p z2 d with rfl|⟨po,z⟩
  ·exact .inl (mapO_dead z3)
  ·exact .inr (view_back z3 z)
theorem Ext.ren (inv:∀ n m,f n=some m↔b m=some n) (hD:∀ n,D n→f n=some n):Ext D true C h (C.ren f b) h:=
 ⟨fun n p d e=>(Tr.ren inv).loc n n p (hD n d) e,fun _ _ e=>e,fun _ _ e _ _=>e,fun _ o e=>⟨o,e⟩,fun _ _ _ e=>Cfg.ren_not e id,fun _ e=>Cfg.ren_not e id,fun _ e=>Cfg.ren_not e id,fun _ _ e=>.inl e,fun _ e=>.inl (ren_lcl e)⟩
noncomputable def Cfg.back (C C₁:Cfg) (f f₂ b₂:Nat→Option Nat):Cfg:=
 {dom:=fun n p=>(b₂ n).elim (C.dom n p) fun i=>C₁.dom i p,rho:=fun n p=>(b₂ n).elim (C.rho n p) fun i=>C₁.rho i p,
  own:=fun x=>match C₁.own x with
  |some (.mu i p)=>some ((f₂ i).elim .prv (.mu · p))
  |some .prv=>(match C.own x with
   |some (.mu n p)=>some ((f n).elim (.mu n p) fun _=>.prv)
   |_=>some .prv)
  |o=>o
  fz:=C₁.fz }
theorem Cfg.back_mu {x:Addr} {i:Nat} {p:Part} (e:C₁.own x=some (.mu i p)):(C.back C₁ f f₂ b₂).own x=some ((f₂ i).elim .prv (.mu · p)):=by
 show (match C₁.own x with|some (.mu i p)=>_|some .prv=>_|o=>o)=_
 rw [e]
theorem Cfg.back_old {x:Addr} {p:Part} (e:C₁.own x=some .prv) (e':C.own x=some (.mu n p)) (hf:f n=none):(C.back C₁ f f₂ b₂).own x=some (.mu n p):=by
 show (match C₁.own x with|some (.mu i p)=>_|some .prv=>(match C.own x with|some (.mu n p)=>some ((f n).elim (Own.mu n p) fun _=>Own.prv)|_=>some Own.prv)|o=>o)=_
 rw [e,e']
 show some ((f n).elim _ _)=_
 rw [hf];rfl
theorem Cfg.back_prv {x:Addr} (e:C₁.own x=some .prv) (e':¬ isMut (C.own x)):(C.back C₁ f f₂ b₂).own x=some .prv:=by
 show (match C₁.own x with|some (.mu i p)=>_|some .prv=>(match C.own x with|some (.mu n p)=>some ((f n).elim (Own.mu n p) fun _=>Own.prv)|_=>some Own.prv)|o=>o)=_
 rw [e]
 rcases own_cases C x with q|q|q|q
 ·rw [q]
 ·rw [q]
 ·rw [q]
 ·exact absurd q e'
theorem Cfg.back_other {x:Addr} {o:Option Own} (e:C₁.own x=o) (h1:¬ isMut o) (h2:o≠some .prv):(C.back C₁ f f₂ b₂).own x=o:=by
 show (match C₁.own x with|some (.mu i p)=>_|some .prv=>_|o=>o)=_
 rw [e]
 cases o with
|none=>rfl
|some u=>cases u with
 |lcl=>rfl
 |prv=>exact absurd rfl h2
 |mu=>exact absurd trivial h1
theorem Tr.back (inv:∀ i n,f₂ i=some n↔b₂ n=some i):Tr f₂ C₁ (C.back C₁ f f₂ b₂):=⟨fun i n p e d=>by
 have e:=(inv i n).mp e
 constructor
 ·show (b₂ n).elim _ _;rw [e];exact d
 ·show (b₂ n).elim _ _=_;rw [e];rfl,fun _ _ e=>e⟩
theorem More.back (O:Ok g C h a) (inv:∀ n m,f n=some m↔b m=some n) (hf:∀ n,n<a.length→b₂ n=f n) (hD:∀ n m,f n=some m→D m) (x:Ext D true (C.ren f b) h C₁ h₁):More C (C.back C₁ f f₂ b₂):=by
 refine ⟨fun n p d=>?_,x.fz⟩
 have e:=hf n (O.N n p d)
 cases q:f n with
|none=>
  rw [q] at e
  constructor
  ·show (b₂ n).elim _ _;rw [e];exact d
  ·show (b₂ n).elim _ _=_;rw [e];rfl
|some i=>
  rw [q] at e
  have z:=(Tr.ren (C:=C) inv).loc n i p q d
  have y:=x.rho i p (hD n i q) z.1
  constructor
  ·show (b₂ n).elim _ _;rw [e];exact y.1
  ·show (b₂ n).elim _ _=_;rw [e];exact y.2.trans z.2
theorem Ok.back (O:Ok g C h a) (O₁:Ok g C₁ h₁ a₁) (inv:∀ n m,f n=some m↔b m=some n) (inv₂:∀ i n,f₂ i=some n↔b₂ n=some i) (hf:∀ n,n<a.length→b₂ n=f n) (hD:∀ n m,f n=some m→D m) (x:Ext D true (C.ren f b) h C₁ h₁)
  (hl:a.length≤a₂.length) (hb:∀ n i,b₂ n=some i→i<a₁.length→n<a₂.length)
  (ha:∀ n o,a₂[n]?=some o→(∃ i o₁,b₂ n=some i∧a₁[i]?=some o₁∧mapO f₂ o₁=some o)∨(b₂ n=none∧a[n]?=some o)):Ok g (C.back C₁ f f₂ b₂) h₁ a₂:=by
 have M:More C (C.back C₁ f f₂ b₂):=More.back O inv hf hD x
 refine ⟨fun y o e=>have z:=O₁.fz y o e;⟨z.1,Cfg.back_other z.2 id (fun z=>nomatch z)⟩,fun y o e=>x.fz y o (O.base y o e),fun y u e=>?_,fun n p d=>?_,fun n o p po e1 e2=>?_,fun n o p e1 d=>?_⟩
 ·cases q:C₁.own y with
 |none=>exact nomatch (Cfg.back_other q id (fun z=>nomatch z)).symm.trans e
 |some u'=>exact O₁.live y u' q
 ·change (b₂ n).elim _ _ at d
  cases q:b₂ n with
 |none=>rw [q] at d;exact Nat.lt_of_lt_of_le (O.N n p d) hl
 |some i=>rw [q] at d;exact hb n i q (O₁.N i p d)
 ·rcases ha n o e1 with ⟨i,o₁,z1,z2,z3⟩|⟨z1,z2⟩
  ·have i2:=(inv₂ i n).mpr z1
   obtain ⟨po₁,y1,y2⟩:=(Tr.back (C:=C) (f:=f) (C₁:=C₁) inv₂).view (g:=g) (h:=h₁) z3 i2 e2
   obtain ⟨q0,q1,q2⟩:=O₁.at_ i o₁ p po₁ z2 y1
   have L:=(Tr.back (C:=C) (f:=f) (C₁:=C₁) inv₂).loc i n p i2 q0
   refine ⟨L.1,?_,y2 q0 q2⟩
   rw [L.2,Cfg.back_mu q1,i2];rfl
  ·obtain ⟨q0,q1,q2⟩:=O.at_ n o p po z2 e2
   have fn:f n=none:=(hf n (O.N n p q0)).symm.trans z1
   have q1':(C.ren f b).own (C.rho n p)=some .prv:=by rw [Cfg.ren_mu q1,fn];rfl
   have L:=M.rho n p q0
   refine ⟨L.1,?_,(q2.keep fun o e=>x.keep _ o e (nmut_prv q1') (.inl rfl)).mono M q0⟩
   rw [L.2]
   exact Cfg.back_old (x.prv _ q1') q1 fn
 ·change (b₂ n).elim _ _ at d
  rcases ha n o e1 with ⟨i,o₁,z1,z2,z3⟩|⟨z1,z2⟩
  ·rw [z1] at d
   rcases O₁.dv i o₁ p z2 d with rfl|⟨po,z⟩
   ·exact .inl (mapO_dead z3)
   ·exact .inr (view_back z3 z)
  ·rw [z1] at d;exact O.dv n o p z2 d
theorem Ext.back (O:Ok g C h a) (inv:∀ n m,f n=some m↔b m=some n) (hf:∀ n,n<a.length→b₂ n=f n) (hD:∀ n m,f n=some m→D m) (x:Ext D true (C.ren f b) h C₁ h₁):Ext All true C h (C.back C₁ f f₂ b₂) h₁:=by
 have M:More C (C.back C₁ f f₂ b₂):=More.back O inv hf hD x
 refine ⟨fun n p _=>M.rho n p,x.fz,fun y o e z l=>x.keep y o e (ren_mut z▸z) (.inl rfl),x.live,fun y o e z=>Cfg.back_other (x.free y o e (Cfg.ren_not z id)) id (fun z=>nomatch z),fun y e=>Cfg.back_other (x.lcl y (Cfg.ren_not e id)) id (fun z=>nomatch z),fun y e=>Cfg.back_prv (x.prv y (Cfg.ren_not e id)) (nmut_prv e),fun y o e=>(x.fzn y o e).imp id (.imp ren_mut' id),fun y e=>(x.lcln y ?_).imp ren_lcl id⟩
 rcases own_cases C₁ y with q|q|q|q
 ·exact nomatch (Cfg.back_other q id (fun z=>nomatch z)).symm.trans e
 ·exact q
 ·by_cases z:isMut (C.own y)
  ·obtain ⟨n,p,z⟩:=mut_inv z
   have e':(match C₁.own y with|some (.mu i p)=>some ((f₂ i).elim Own.prv (.mu · p))|some .prv=>(match C.own y with|some (.mu n p)=>some ((f n).elim (Own.mu n p) fun _=>.prv)|_=>some .prv)|o=>o)=some .lcl:=e
   rw [q,z] at e'
   have e':some ((f n).elim (Own.mu n p) fun _=>.prv)=some .lcl:=e'
   cases y:f n<;>(rw [y] at e';cases e')
  ·exact nomatch (Cfg.back_prv q z).symm.trans e
 ·obtain ⟨n,p,z⟩:=mut_inv q
  rw [Cfg.back_mu z] at e
  cases y:f₂ n<;>(rw [y] at e;cases e)
end
inductive FRep (C:Cfg):Fl→Flow→Prop
|next:FRep C .next .next
|ret {v:AV} {u:Value}:VRep C v u→FRep C (.ret v) (.ret u)
section
variable (g:Cx)
def Run (A:Around) (σ:St) {β:Type} (m:Sem β) (R:Cfg→β→Prop) (a':Hp):Prop:=
 ∀ (Q:β→Shared→Prop) (E:Value→Shared→Prop),(∀ u σ',Nx All true σ σ'→Ok g σ'.C σ'.h a'→R σ'.C u→Q u σ'.s)→wpAny g.M A m Q E σ.s
def EvR (n:Nat) (sc:Scope) (vs:Vars) (e:Expr) (a:Hp) (v:AV) (a':Hp):Prop:=∀ A env σ,Room n A→EnvOk env sc→Ok g σ.C σ.h a→VR g σ env vs→Run g A σ (eval e env) (fun C u=>VRep C v u) a'
def TvR (n:Nat) (sc:Scope) (vs:Vars) (e:Expr) (a:Hp) (b:Bool) (a':Hp):Prop:=∀ A env σ,Room n A→EnvOk env sc→Ok g σ.C σ.h a→VR g σ env vs→Run g A σ (isTrue e env (eval e env)) (fun _ u=>u=b) a'
def EsR (n:Nat) (sc:Scope) (vs:Vars) (es:List Expr) (a:Hp) (xs:List AV) (a':Hp):Prop:=(es=[]→xs=[]∧a'=a)∧∀ A env σ pos,Room n A→EnvOk env sc→Ok g σ.C σ.h a→VR g σ env vs→Run g A σ (spliced (backTo pos (starEach es env))) (fun C us=>VReps C xs us) a'
def RunS (A:Around) (D:Nat→Prop) (env:Env) (σ:St) (m:Sem Flow) (f:Fl) (vs':Vars) (a':Hp):Prop:=
 ∀ (Q:Flow→Shared→Prop) (E:Value→Shared→Prop),(∀ f' σ',FRep σ'.C f f'→Nx D false σ σ'→Ok g σ'.C σ'.h a'→VR g σ' env vs'→Q f' σ'.s)→wpAny g.M A m Q E σ.s
def SR (n:Nat) (D:Nat→Prop) (sc:Scope) (vs:Vars) (st:Stmt) (a:Hp) (f:Fl) (vs':Vars) (a':Hp):Prop:=∀ A env σ,Room n A→EnvOk env sc→Ok g σ.C σ.h a→VR g σ env vs→RunS g A D env σ (exec st env) f vs' a'
def SsR (n:Nat) (D:Nat→Prop) (sc:Scope) (vs:Vars) (ss:List Stmt) (a:Hp) (f:Fl) (vs':Vars) (a':Hp):Prop:=∀ A env σ,Room n A→EnvOk env sc→Ok g σ.C σ.h a→VR g σ env vs→RunS g A D env σ (execs ss env) f vs' a'
def CD (n:Nat) (D:Nat→Prop) (f:Addr) (args:List AV) (a:Hp) (v:AV) (a':Hp):Prop:=∀ A σ us R,Room n A→Ok g σ.C σ.h a→VReps σ.C args us →
 (∀ u σ',Nx D true σ σ'→Ok g σ'.C σ'.h a'→VRep σ'.C v u→R (.ok (.ret u)) σ'.s)→codeAny g.M A (.call (.ref f) ⟨us,[]⟩) R σ.s
def CR (n:Nat) (f:Addr) (args:List AV) (a:Hp) (v:AV) (a':Hp):Prop:=CD g n (fun i=>i<a.length) f args a v a'
end
section
variable {g:Cx} {D D':Nat→Prop} {C C' C₀ C₁:Cfg} {h h' h₀ h₁:Heap} {a a' a₀ a₁ a₂:Hp} {n m:Nat} {σ σ':St} {sc:Scope} {vs vs' vs₁:Vars} {A:Around} {env:Env}
noncomputable def outF (κ:List Nat) (l i:Nat):Option Nat:=bif Nat.blt i κ.length then κ[i]? else some (l+(i - κ.length))
noncomputable def outB (κ:List Nat) (l n:Nat):Option Nat:=bif Nat.blt n l then pos n κ else some (n - l+κ.length)
noncomputable def nodupB:List Nat→Bool
|[]=>true
|x::r=>bif (pos x r).isSome then false else nodupB r
noncomputable def gcH (κ:List Nat) (a:Hp):Option Hp:=trav (fun n=>a[n]?.bind (mapO fun n=>pos n κ)) κ
noncomputable def outH (κ:List Nat) (a a₁:Hp):Option Hp:=
 (trav (fun n=>(pos n κ).elim a[n]? fun i=>a₁[i]?.bind (mapO (outF κ a.length))) (List.range a.length)).bind fun x=>(trav (mapO (outF κ a.length)) (a₁.drop κ.length)).map (x++·)
theorem nodupB_of:∀ {κ:List Nat},nodupB κ=true→κ.Nodup:=by
 intro κ
 induction κ with
|nil=>exact fun _=>.nil
|cons x r ih=>
  intro e
  rw [nodupB] at e
  cases q:(pos x r).isSome with
 |true=>rw [q] at e;cases e
 |false=>
   rw [q] at e
   have hn:=ih e
   refine List.nodup_cons.mpr ⟨fun hm=>?_,hn⟩
   obtain ⟨i,hi⟩:=List.getElem?_of_mem hm
   rw [get_pos hn hi] at q;cases q
theorem inv_κ {κ:List Nat} (hn:κ.Nodup) (n m:Nat):pos n κ=some m↔κ[m]?=some n:=⟨pos_get,get_pos hn⟩
theorem inv_out {κ:List Nat} (hn:κ.Nodup) {l:Nat} (hl:∀ (i n:Nat),κ[i]?=some n→n<l) (i n:Nat):outF κ l i=some n↔outB κ l n=some i:=by
 unfold outF outB
 cases q:Nat.blt n l with
|true=>
  rw [cond_true]
  cases z:Nat.blt i κ.length with
 |true=>rw [cond_true];exact (inv_κ hn n i).symm
 |false=>
   rw [cond_false]
   have q':n<l:=Nat.le_of_ble_eq_true q
   refine ⟨fun e=>?_,fun e=>?_⟩
   ·cases e;exact absurd q' (Nat.not_lt.mpr (Nat.le_add_right ..))
   ·have:=(List.getElem?_eq_some_iff.mp (pos_get e)).1
    rw [show Nat.blt i κ.length=true from Nat.ble_eq_true_of_le this] at z;cases z
|false=>
  rw [cond_false]
  have q':l≤n:=Nat.le_of_not_lt fun z=>by rw [show Nat.blt n l=true from Nat.ble_eq_true_of_le z] at q;cases q
  cases z:Nat.blt i κ.length with
 |true=>
   rw [cond_true]
   have z':i<κ.length:=Nat.le_of_ble_eq_true z
   refine ⟨fun e=>absurd (hl i n e) (Nat.not_lt.mpr q'),fun e=>?_⟩
   cases e
   exact absurd z' (Nat.not_lt.mpr (Nat.le_add_left ..))
 |false=>
   rw [cond_false]
   have z':κ.length≤i:=Nat.le_of_not_lt fun y=>by rw [show Nat.blt i κ.length=true from Nat.ble_eq_true_of_le y] at z;cases z
   rw [Option.some.injEq,Option.some.injEq]
   exact ⟨fun e=>by rw [← e,Nat.add_sub_cancel_left,Nat.sub_add_cancel z'],fun e=>by rw [← e,Nat.add_sub_cancel,Nat.add_sub_cancel' q']⟩
theorem gcH_len {κ:List Nat} (e:gcH κ a=some a₀):a₀.length=κ.length:=trav_len e
theorem gcH_at {κ:List Nat} (e:gcH κ a=some a₀) (m:Nat) (o':AObj) (h:a₀[m]?=some o'):∃ n o,κ[m]?=some n∧a[n]?=some o∧mapO (fun n=>pos n κ) o=some o':=by
 obtain ⟨n,h1,h2⟩:=trav_get e h
 obtain ⟨o,h3,h4⟩:=Option.bind_eq_some_iff.mp h2
 exact ⟨n,o,h1,h3,h4⟩
theorem gcH_in {κ:List Nat} (e:gcH κ a=some a₀) (i n:Nat) (h:κ[i]?=some n):n<a.length:=by
 have hi:i<a₀.length:=gcH_len e▸(List.getElem?_eq_some_iff.mp h).1
 obtain ⟨n',o,h1,h2,_⟩:=gcH_at e i _ (List.getElem?_eq_getElem hi)
 obtain rfl:=Option.some.inj (h1.symm.trans h)
 exact (List.getElem?_eq_some_iff.mp h2).1
theorem outH_at {κ:List Nat} (e:outH κ a a₁=some a₂):a.length≤a₂.length∧(∀ n i,outB κ a.length n=some i→i<a₁.length→n<a₂.length) ∧
  ∀ n o,a₂[n]?=some o→(∃ i o₁,outB κ a.length n=some i∧a₁[i]?=some o₁∧mapO (outF κ a.length) o₁=some o)∨(outB κ a.length n=none∧a[n]?=some o):=by
 obtain ⟨x,e1,e2⟩:=Option.bind_eq_some_iff.mp e
 obtain ⟨y,e3,rfl⟩:=Option.map_eq_some_iff.mp e2
 have hx:x.length=a.length:=(trav_len e1).trans List.length_range
 have hy:=trav_len e3
 rw [List.length_drop] at hy
 refine ⟨by rw [List.length_append,hx];exact Nat.le_add_right ..,fun n i h1 h2=>?_,fun n o h=>?_⟩
 ·rw [List.length_append,hx,hy]
  unfold outB at h1
  cases q:Nat.blt n a.length with
 |true=>exact Nat.lt_of_lt_of_le (Nat.le_of_ble_eq_true q) (Nat.le_add_right ..)
 |false=>
   rw [q,cond_false,Option.some.injEq] at h1
   exact (Nat.sub_lt_iff_lt_add' (Nat.le_of_not_lt fun z=>by rw [show Nat.blt n a.length=true from Nat.ble_eq_true_of_le z] at q;cases q)).mp (Nat.lt_sub_of_add_lt (h1▸h2))
 ·by_cases hn:n<a.length
  ·have hb:outB κ a.length n=pos n κ:=by unfold outB;rw [show Nat.blt n a.length=true from Nat.ble_eq_true_of_le hn];rfl
   rw [List.getElem?_append_left (by rw [hx];exact hn)] at h
   obtain ⟨k,h1,h2⟩:=trav_get e1 h
   obtain rfl:n=k:=by
    obtain ⟨_,h1⟩:=List.getElem?_eq_some_iff.mp h1
    rw [List.getElem_range] at h1;exact h1
   rw [hb]
   cases q:pos n κ with
  |none=>rw [q] at h2;exact .inr ⟨rfl,h2⟩
  |some i=>
    rw [q] at h2
    obtain ⟨o₁,h3,h4⟩:=Option.bind_eq_some_iff.mp h2
    exact .inl ⟨i,o₁,rfl,h3,h4⟩
  ·have hn:=Nat.le_of_not_lt hn
   rw [List.getElem?_append_right (by rw [hx];exact hn),hx] at h
   obtain ⟨o₁,h1,h2⟩:=trav_get e3 h
   rw [List.getElem?_drop] at h1
   refine .inl ⟨n - a.length+κ.length,o₁,?_,by rw [Nat.add_comm];exact h1,h2⟩
   unfold outB
   cases q:Nat.blt n a.length with
  |true=>exact absurd (show n<a.length from Nat.le_of_ble_eq_true q) (Nat.not_lt.mpr hn)
  |false=>rfl
theorem CR.frame {f:Addr} {args args₀:List AV} {v v₀:AV} (κ:List Nat) (H:CR g n f args₀ a₀ v₀ a₁) (hκ:nodupB κ=true) (e0:gcH κ a=some a₀) (e1:trav (mapV fun n=>pos n κ) args=some args₀) (e2:outH κ a a₁=some a₂) (e3:mapV (outF κ a.length) v₀=some v):
  CD g n All f args a v a₂:=by
 intro A σ us R hR O rs h
 have hn:=nodupB_of hκ
 have inv:=inv_κ hn
 have inv₂:=inv_out hn (gcH_in e0)
 obtain ⟨p1,p2,p3⟩:=outH_at e2
 have hf:∀ n,n<a.length→outB κ a.length n=pos n κ:=fun n hn=>by unfold outB;rw [show Nat.blt n a.length=true from Nat.ble_eq_true_of_le hn];rfl
 have hD:∀ n m,pos n κ=some m→m<a₀.length:=fun n m e=>gcH_len e0▸(List.getElem?_eq_some_iff.mp (pos_get e)).1
 refine H A ⟨σ.C.ren (fun n=>pos n κ) (fun m=>κ[m]?),σ.s⟩ us R hR (O.ren inv (gcH_at e0) fun m n e=>gcH_len e0▸(List.getElem?_eq_some_iff.mp e).1) ((Tr.ren inv).vs e1 rs) fun u σ' x O' r=>?_
 exact h u ⟨σ.C.back σ'.C (fun n=>pos n κ) (outF κ a.length) (outB κ a.length),σ'.s⟩ ⟨Ext.back O inv hf hD x.ext,x.same⟩ (Ok.back O O' inv inv₂ hf hD x.ext p1 p2 p3) ((Tr.back inv₂).v e3 r)
noncomputable def gcV (κ:List Nat) (xs:List Str) (vs:Vars):Option Vars:=trav (fun x=>(look x vs).bind fun v=>mapP (fun n=>pos n κ) (x,v)) xs
theorem gcV_look {κ:List Nat} {xs:List Str} (e:gcV κ xs vs=some vs') {x:Str} {v':AV} (h:look x vs'=some v'):∃ v,look x vs=some v∧mapV (fun n=>pos n κ) v=some v':=by
 obtain ⟨i,hi⟩:=List.getElem?_of_mem (mem_of_look h)
 obtain ⟨y,_,h2⟩:=trav_get e hi
 obtain ⟨v,h3,h4⟩:=Option.bind_eq_some_iff.mp h2
 obtain ⟨v₁,h5,h6⟩:=Option.map_eq_some_iff.mp h4
 cases h6
 exact ⟨v,h3,h5⟩
theorem gc_state {κ:List Nat} {xs:List Str} (hκ:nodupB κ=true) (e0:gcH κ a=some a') (e1:gcV κ xs vs=some vs') (hD:∀ i,D i→κ[i]?=some i) (O:Ok g σ.C σ.h a) (V:VR g σ env vs):
  ∃ σ',σ'.s=σ.s∧Nx D true σ σ'∧Ok g σ'.C σ'.h a'∧VR g σ' env vs'∧∀ v u,mapV (fun n=>pos n κ) v=some v→VRep σ.C v u→VRep σ'.C v u:=by
 have inv:=inv_κ (nodupB_of hκ)
 refine ⟨⟨σ.C.ren (fun n=>pos n κ) (fun m=>κ[m]?),σ.s⟩,rfl,⟨Ext.ren inv fun n hn=>(inv n n).mpr (hD n hn),rfl⟩,O.ren inv (gcH_at e0) fun m n e=>gcH_len e0▸(List.getElem?_eq_some_iff.mp e).1,V.map (fun y o e z=>⟨Cfg.ren_not e id,z⟩) fun x v' e=>?_,fun v u e r=>(Tr.ren inv).v e r⟩
 obtain ⟨v,z1,z2⟩:=gcV_look e1 e
 exact ⟨v,z1,fun u r=>(Tr.ren inv).v z2 r⟩
theorem SsR.gc {ss:List Stmt} {f:Fl} {κ:List Nat} {xs:List Str} (hκ:nodupB κ=true) (e0:gcH κ a=some a₁) (e1:gcV κ xs vs=some vs₁) (hD:∀ i,D i→κ[i]?=some i) (H:SsR g n D sc vs₁ ss a₁ f vs' a'):SsR g n D sc vs ss a f vs' a':=by
 intro A env σ hR hE O V Q E h
 obtain ⟨σ₁,z1,z2,z3,z4,_⟩:=gc_state hκ e0 e1 hD O V
 rw [← z1]
 exact H A env σ₁ hR hE z3 z4 Q E fun f' σ' F x O' V'=>h f' σ' F ((z2.weak fun _ h=>h).trans x) O' V'
end
section
variable {g:Cx} {T:Tabs} {D D':Nat→Prop} {C C' C₀ C₁:Cfg} {h h' h₀ h₁:Heap} {a a' a₀ a₁ a₂:Hp} {n m:Nat} {σ σ':St} {sc:Scope} {vs vs' vs₁:Vars} {A:Around} {env:Env} {fl:Fl} {ss:List Stmt} {st:Stmt}
theorem SsR.nil:SsR g n D sc vs [] a .next vs a:=fun _ _ σ _ _ O V _ _ h=>wpAny_execs_nil (h .next σ .next .refl O V)
theorem SsR.cons (H:SR g n D sc vs st a .next vs₁ a₁) (K:SsR g n D sc vs₁ ss a₁ fl vs' a'):SsR g n D sc vs (st::ss) a fl vs' a':=
 fun A env σ hR hE O V _ E h=>wpAny_execs_cons (H A env σ hR hE O V _ E fun _ σ₁ F x O₁ V₁=>by
  cases F
  exact K A env σ₁ hR hE O₁ V₁ _ E fun f' σ' F' x'=>h f' σ' F' (x.trans x'))
theorem SsR.ret {v:AV} (H:SR g n D sc vs st a (.ret v) vs' a'):SsR g n D sc vs (st::ss) a (.ret v) vs' a':=
 fun A env σ hR hE O V _ E h=>wpAny_execs_cons (H A env σ hR hE O V _ E fun _ σ₁ F x O₁ V₁=>by
  cases F with
 |ret r=>exact h _ σ₁ (.ret r) x O₁ V₁)
noncomputable def mapF (f:Nat→Option Nat):Fl→Fl→Prop
|.next,.next=>True
|.ret v,.ret w=>mapV f v=some w
|_,_=>False
theorem RunS.gc {env:Env} {m:Sem Flow} {f f':Fl} {κ:List Nat} {xs:List Str} (H:RunS g A D env σ m f vs₁ a₁) (hκ:nodupB κ=true) (e0:gcH κ a₁=some a') (e1:gcV κ xs vs₁=some vs') (e2:mapF (fun n=>pos n κ) f f') (hD:∀ i,D i→κ[i]?=some i):RunS g A D env σ m f' vs' a':=by
 intro Q E h
 refine H Q E fun r σ' F x O V=>?_
 have inv:=inv_κ (nodupB_of hκ)
 have O':Ok g (σ'.C.ren (fun n=>pos n κ) (fun m=>κ[m]?)) σ'.h a':=O.ren inv (gcH_at e0) fun m n e=>gcH_len e0▸(List.getElem?_eq_some_iff.mp e).1
 refine h r ⟨σ'.C.ren (fun n=>pos n κ) (fun m=>κ[m]?),σ'.s⟩ ?_ (x.trans (Nx.weak ⟨Ext.ren inv fun n hn=>(inv n n).mpr (hD n hn),rfl⟩ fun _ h=>h)) O' (V.map (fun y o e z=>⟨Cfg.ren_not e id,z⟩) fun x v' e=>?_)
 ·cases F with
 |next=>
   cases f' with
  |next=>exact .next
  |ret _=>exact e2.elim
 |ret r=>
   cases f' with
  |next=>exact e2.elim
  |ret v=>exact .ret ((Tr.ren inv).v e2 r)
 ·obtain ⟨v,z1,z2⟩:=gcV_look e1 e
  exact ⟨v,z1,fun u r=>(Tr.ren inv).v z2 r⟩
theorem SsR.gcEnd {f f':Fl} {κ:List Nat} {xs:List Str} (H:SsR g n D sc vs ss a f vs₁ a₁) (hκ:nodupB κ=true) (e0:gcH κ a₁=some a') (e1:gcV κ xs vs₁=some vs') (e2:mapF (fun n=>pos n κ) f f') (hD:∀ i,D i→κ[i]?=some i):SsR g n D sc vs ss a f' vs' a':=
 fun A env σ hR hE O V=>(H A env σ hR hE O V).gc hκ e0 e1 e2 hD
theorem SsR.weak (hd:∀ i,D' i→D i) (H:SsR g n D sc vs ss a fl vs' a'):SsR g n D' sc vs ss a fl vs' a':=fun A env σ hR hE O V Q E h=>H A env σ hR hE O V Q E fun f' σ' F x O' V'=>h f' σ' F ⟨{ x.ext with rho:=fun n p d=>x.ext.rho n p (hd n d) },x.same⟩ O' V'
noncomputable def enterO:Option Own→Option Own
|some .lcl=>some .prv
|o=>o
noncomputable def exitO (x y:Option Own):Option Own:=match y with
|some .lcl=>some .prv
|some .prv=>(match x with
 |some .lcl=>some .lcl
 |_=>some .prv)
|o=>o
open Classical in
noncomputable def Cfg.enter (C:Cfg) (l:Addr→Prop):Cfg:={ C with own:=fun y=>if l y then some .lcl else enterO (C.own y) }
noncomputable def Cfg.exit (C C':Cfg):Cfg:={ C' with own:=fun y=>exitO (C.own y) (C'.own y) }
theorem exitO_lcl {x y:Option Own} (h:exitO x y=some .lcl):x=some .lcl:=by
 cases y with
|none=>cases h
|some y=>
  cases y with
 |lcl=>cases h
 |mu=>cases h
 |prv=>
   cases x with
  |none=>cases h
  |some x=>cases x<;>first|rfl|cases h
theorem Cfg.enter_new {l:Addr→Prop} {y:Addr} (h:l y):(C.enter l).own y=some .lcl:=if_pos h
theorem Cfg.enter_old {l:Addr→Prop} {y:Addr} {o:Option Own} (h:¬ l y) (e:C.own y=o):(C.enter l).own y=enterO o:=(if_neg h).trans (e▸rfl)
theorem Cfg.enter_more {l:Addr→Prop}:More C (C.enter l):=⟨fun _ _ e=>⟨e,rfl⟩,fun _ _ e=>e⟩
theorem Cfg.exit_more:More C' (C.exit C'):=⟨fun _ _ e=>⟨e,rfl⟩,fun _ _ e=>e⟩
theorem Cfg.exit_at {y:Addr} {x z:Option Own} (e:C.own y=x) (e':C'.own y=z):(C.exit C').own y=exitO x z:=by rw [← e,← e'];rfl
theorem Ok.enter (O:Ok g C h a) {l:Addr→Prop} (hg:∀ y,l y→h.get? y=none∧∃ o,h'.get? y=some o) (k:∀ x o,h.get? x=some o→h'.get? x=some o):Ok g (C.enter l) h' a:=by
 have gn:∀ y o,h.get? y=some o→¬ l y:=fun y o e z=>nomatch e.symm.trans (hg y z).1
 refine ⟨fun x o e=>have z:=O.fz x o e;⟨k x o z.1,Cfg.enter_old (gn x o z.1) z.2⟩,O.base,fun x u e=>?_,O.N,fun m o p po e1 e2=>?_,O.dv⟩
 ·by_cases q:l x
  ·exact (hg x q).2
  ·cases z:C.own x with
  |none=>exact nomatch (Cfg.enter_old q z).symm.trans e
  |some u'=>obtain ⟨o,y⟩:=O.live x u' z;exact ⟨o,k x o y⟩
 ·obtain ⟨q0,q1,q2⟩:=O.at_ m o p po e1 e2
  obtain ⟨o',z⟩:=O.live _ _ q1
  exact ⟨q0,Cfg.enter_old (gn _ _ z) q1,(q2.keep (k _)).mono Cfg.enter_more q0⟩
theorem Ok.exit (O:Ok g C' h' a'):Ok g (C.exit C') h' a':=by
 refine ⟨fun x o e=>have z:=O.fz x o e;⟨z.1,Cfg.exit_at rfl z.2⟩,O.base,fun x u e=>?_,O.N,fun m o p po e1 e2=>by obtain ⟨q0,q1,q2⟩:=O.at_ m o p po e1 e2;exact ⟨q0,Cfg.exit_at rfl q1,q2.mono Cfg.exit_more q0⟩,O.dv⟩
 cases q:C'.own x with
|none=>exact nomatch (Cfg.exit_at (C:=C) rfl q).symm.trans e
|some u'=>exact O.live x u' q
theorem Ext.call {h₂:Heap} (O:Ok g C h a) {l:Addr→Prop} (hg:∀ y,l y→h.get? y=none) (k:∀ x o,h.get? x=some o→h₁.get? x=some o) (x:Ext D false (C.enter l) h₁ C' h₂):Ext D true C h (C.exit C') h₂:=by
 have gn:∀ y o,h.get? y=some o→¬ l y:=fun y o e z=>nomatch e.symm.trans (hg y z)
 have pv:∀ y u,C.own y=some u→enterO (some u)=some .prv→C'.own y=some .prv:=fun y u q z=>by obtain ⟨o,e⟩:=O.live y u q;exact x.prv y ((Cfg.enter_old (gn y o e) q).trans z)
 refine ⟨x.rho,x.fz,fun y o e m _=>?_,fun y o e=>x.live y o (k y o e),fun y o e q=>Cfg.exit_at q (x.free y o (k y o e) (Cfg.enter_old (gn y o e) q)),fun y q=>Cfg.exit_at q (pv y _ q rfl),fun y q=>Cfg.exit_at q (pv y _ q rfl),fun y o e=>?_,fun y q=>.inl (exitO_lcl q)⟩
 ·have E:=fun o'=>Cfg.enter_old (C:=C) (l:=l) (y:=y) (o:=o') (gn y o e)
  rcases own_cases C y with z|z|z|z
  ·exact x.keep y o (k y o e) (nmut_none (E _ z)) (.inr (nlcl_none (E _ z)))
  ·exact x.keep y o (k y o e) (nmut_prv (E _ z)) (.inr (nlcl_prv (E _ z)))
  ·exact x.keep y o (k y o e) (nmut_prv (E _ z)) (.inr (nlcl_prv (E _ z)))
  ·exact absurd z m
 ·cases e0:h.get? y with
 |none=>exact .inr (.inr rfl)
 |some o0=>
   have E:=fun o'=>Cfg.enter_old (C:=C) (l:=l) (y:=y) (o:=o') (gn y o0 e0)
   rcases x.fzn y o e with z|z|z
   ·exact .inl z
   ·rcases own_cases C y with q|q|q|q
    ·exact absurd z (nmut_none (E _ q))
    ·exact absurd z (nmut_prv (E _ q))
    ·exact absurd z (nmut_prv (E _ q))
    ·exact .inr (.inl q)
   ·exact nomatch (k y o0 e0).symm.trans z
theorem cellsFrom_keeps (x:Str):∀ (names:List (Str×NameKind)) (m:Nat) (acc:List (Str×Addr)),(acc.lookup x).isSome=true→((cellsFrom m names acc).lookup x).isSome=true
|[],_,_,h=>h
|(y,kind)::r,m,acc,h=>by
  unfold cellsFrom
  split
  ·refine cellsFrom_keeps x r _ _ ?_
   rw [List.lookup_cons]
   cases x==y
   ·exact h
   ·rfl
  ·exact cellsFrom_keeps x r _ _ h
theorem cellsFrom_has (x:Str):∀ (names:List (Str×NameKind)) (m:Nat) (acc:List (Str×Addr)),names.lookup x=some .cell→((cellsFrom m names acc).lookup x).isSome=true
|[],_,_,h=>nomatch h
|(y,kind)::r,m,acc,h=>by
  rw [List.lookup_cons] at h
  cases q:x==y with
 |true=>
   rw [q] at h
   cases h
   unfold cellsFrom
   rw [if_pos (by decide)]
   refine cellsFrom_keeps x r _ _ ?_
   rw [List.lookup_cons,q];rfl
 |false=>
   rw [q] at h
   unfold cellsFrom
   split
   ·exact cellsFrom_has x r _ _ h
   ·exact cellsFrom_has x r _ _ h
theorem bindL_out (kindOf:Str→Option NameKind) (x:Str):∀ (binds:List (Str×Value)) (m:Str→Option Value),x ∉ binds.map (·.1)→bindL kindOf binds m x=m x
|[],_,_=>rfl
|(y,v)::r,m,h=>by
  rw [List.map_cons,List.mem_cons,not_or] at h
  unfold bindL
  rw [bindL_out kindOf x r _ h.2]
  split
  ·exact if_neg h.1
  ·rfl
theorem bindC_out (kindOf:Str→Option NameKind) (x:Str):∀ (binds:List (Str×Value)) (m:Str→Option Value),x ∉ binds.map (·.1)→bindC kindOf binds m x=m x
|[],_,_=>rfl
|(y,v)::r,m,h=>by
  rw [List.map_cons,List.mem_cons,not_or] at h
  unfold bindC
  rw [bindC_out kindOf x r _ h.2]
  split
  ·rfl
  ·exact if_neg h.1
theorem BPairs.keys {vs:Vars} {binds:List (Str×Value)} (h:BPairs C vs binds):binds.map (·.1)=vs.map (·.1):=by
 induction h with
|nil=>rfl
|cons _ _ r=>exact congrArg (_::·) r
theorem bind_at {kindOf:Str→Option NameKind} {x:Str} {v:AV} {vs:Vars} {binds:List (Str×Value)} (h:BPairs C vs binds):(vs.map (·.1)).Nodup→look x vs=some v→∀ m:Str→Option Value,
  ∃ u,VRep C v u∧(kindOf x=some .local→bindL kindOf binds m x=some u)∧(kindOf x≠some .local→bindC kindOf binds m x=some u):=by
 induction h with
|nil=>exact fun _ e=>nomatch e
|cons hv r ih=>
  rename_i y v' u vs binds
  intro hn e m
  rw [List.map_cons,List.nodup_cons] at hn
  rw [look_cons] at e
  unfold bindL bindC
  by_cases hxy:x=y
  ·subst hxy
   obtain rfl:=Option.some.inj ((if_pos rfl).symm.trans e)
   have hx:x ∉ binds.map (·.1):=r.keys▸hn.1
   refine ⟨u,hv,fun k=>?_,fun k=>?_⟩
   ·rw [bindL_out _ _ _ _ hx,if_pos k];exact if_pos rfl
   ·rw [bindC_out _ _ _ _ hx,if_neg k];exact if_pos rfl
  ·have e:=(if_neg hxy).symm.trans e
   obtain ⟨u1,z1,z2,_⟩:=ih hn.2 e (if kindOf y=some .local then fun z=>if z=y then some u else m z else m)
   obtain ⟨u2,y1,_,y3⟩:=ih hn.2 e (if kindOf y=some .local then m else fun z=>if z=y then some u else m z)
   by_cases k:kindOf x=some .local
   ·exact ⟨u1,z1,z2,fun k'=>absurd k k'⟩
   ·exact ⟨u2,y1,fun k'=>absurd k' k,y3⟩
noncomputable def retV:Fl→AV
|.ret v=>v
|.next=>.none
abbrev OwnF (env:Env) (y:Addr):Prop:=y=env.locals∨∃ x,env.cells.lookup x=some y
theorem fn_enter (G:Gl g T) {f:Addr} {d:FnD} (hd:T.fn f=some d) {args:List AV} (e1:bindP d args=some vs) {us:List Value} {R:Result→Shared→Prop} (hR:Room (n+1) A) (O:Ok g σ.C σ.h a) (rs:VReps σ.C args us)
  (h:∀ env h₁ t₁,env.frame=some env.locals→(∃ o fd,g.hb.get? f=some o∧o.data=.func fd∧env.code=fd.code)→EnvOk env d.scope→(∀ y,OwnF env y→σ.h.get? y=none)→(∀ b o,σ.h.get? b=some o→h₁.get? b=some o)→Ok g (σ.C.enter (OwnF env)) h₁ a→VR g ⟨σ.C.enter (OwnF env),{ σ.s with heap:=h₁,toks:=t₁ }⟩ env vs →
   codeAny g.M A (.func d.body env) R { σ.s with heap:=h₁,toks:=t₁ }):codeAny g.M A (.call (.ref f) ⟨us,[]⟩) R σ.s:=by
 have FO:=G.fn f d hd
 obtain ⟨o,fd,f1,f2,f3,f4,f5,f6,f7,f8,f9,f10,f11,f12,f13⟩:=FO.there
 obtain ⟨binds,b1,b2⟩:=f13 σ.C args vs us σ.s e1 rs O.stays
 obtain ⟨p1,p2⟩:=FO.pars args vs e1
 have b3:=b2.keys
 refine codeAny_call_function hR.dep (O.stays _ _ f1) f2 f10 f11 f4 (f9.keeps O.stays) (b1 _ _ _ _ ?_)
 rw [f7]
 refine wpAny_newFunctionEnv_cells f12 (fun x hx=>?_) fun env he s' X=>?_
 ·have hm:x.1∈vs.map (·.1):=b3▸List.mem_map_of_mem hx
  obtain ⟨y,hy,hyx⟩:=List.mem_map.mp hm
  have:=p2 y hy
  rw [hyx,look_eq,← f5] at this
  exact this.imp id fun z=>⟨z,cellsFrom_has _ _ _ _ z⟩
 ·have hsc:env.scope=d.scope:=by rw [he,← f5];rfl
  have hcl:env.cells=cellsFrom (σ.h.objs.size+1) fd.scope.names []:=by rw [he];rfl
  have hko:∀ x,env.kindOf x=look x d.scope.names:=fun x=>by rw [look_eq,← f5,he];rfl
  obtain ⟨h₁,t₁,hs'⟩:=X.toInCall.same
  subst hs'
  have kp:=X.toInCall.keep
  refine ⟨(G.nolimit.keeps O.stays).keeps kp,?_⟩
  have hgn:∀ y,OwnF env y→σ.h.get? y=none:=fun y hy=>by
   have hlo:=X.toInCall.fresh
   cases q:σ.h.get? y with
  |none=>rfl
  |some o=>
    have hlt:=Nat.lt_of_lt_of_le (Heap.lt_size q) hlo
    rcases hy with rfl|⟨x,hx⟩
    ·exact absurd hlt (Nat.lt_irrefl _)
    ·exact absurd (Nat.lt_trans hlt (X.above x y (mem_of_lookup hx))) (Nat.lt_irrefl _)
  have O₁:=O.enter (h':=h₁) (fun y hy=>⟨hgn y hy,by
   rcases hy with rfl|⟨x,hx⟩
   ·obtain ⟨o,_,_,ho,_⟩:=X.toInCall.ns;exact ⟨o,ho⟩
   ·obtain ⟨o,ho,_⟩:=X.cell x y hx;exact ⟨o,ho⟩⟩) kp
  have E₁:EnvOk env d.scope:=⟨by rw [hsc,← f5];exact f12,by rw [he];exact f6,by rw [he];exact f8,fun x k hk=>⟨.inl (by rw [hko];exact hk),FO.names x k hk⟩,fun x hx=>by
   rcases hx with hx|hx
   ·rw [hcl]
    refine Option.isSome_iff_exists.mp (cellsFrom_has x _ _ _ ?_)
    rw [hko,look_eq,← f5] at hx;exact hx
   ·rw [hko] at hx;exact absurd hx (FO.nofree x)⟩
  refine h env h₁ t₁ (by rw [he];rfl) ⟨o,fd,f1,f2,by rw [he];rfl⟩ E₁ hgn kp O₁ ?_
  refine ⟨⟨_,X.toInCall.ns,fun x v hx hk=>?_⟩,Cfg.enter_new (.inl rfl),fun x c hc=>⟨Cfg.enter_new (.inr ⟨x,hc⟩),Nat.ne_of_gt (X.above x c (mem_of_lookup hc)),O.hb_none (hgn c (.inr ⟨x,hc⟩)),_,X.cell x c hc,fun v hx hk=>?_⟩,fun x y c hx hy=>name_of_addr X.apart (mem_of_lookup hx) (mem_of_lookup hy)⟩
  ·obtain ⟨u,z1,z2,_⟩:=bind_at (kindOf:=env.kindOf) b2 p1 hx (fun _=>none)
   exact ⟨u,z2 hk,z1.mono Cfg.enter_more⟩
  ·obtain ⟨u,z1,_,z3⟩:=bind_at (kindOf:=env.kindOf) b2 p1 hx (fun _=>none)
   exact ⟨u,z3 (by rcases hk with hk|hk<;>(rw [hk];intro z;cases z)),z1.mono Cfg.enter_more⟩
theorem CR.fn (G:Gl g T) {f:Addr} {d:FnD} (hd:T.fn f=some d) {args:List AV} (e1:bindP d args=some vs) (H:SsR g n (fun i=>i<a.length) d.scope vs d.body a fl vs' a'):CR g (n+1) f args a (retV fl) a':=by
 intro A σ us R hR O rs h
 refine fn_enter G hd e1 hR O rs fun env h₁ t₁ _ _ E₁ hgn kp O₁ V₁=>codeAny_func ?_
 refine H (A.deeper env) env ⟨σ.C.enter (OwnF env),{ σ.s with heap:=h₁,toks:=t₁ }⟩ (hR.deeper env) E₁ O₁ V₁ _ _ fun f' σ₂ F₂ x₂ O₂ V₂=>?_
 have X₂:=Ext.call O hgn kp x₂.ext
 cases F₂ with
|next=>exact h .none ⟨σ.C.exit σ₂.C,σ₂.s⟩ ⟨X₂,x₂.same⟩ O₂.exit (.val _)
|ret hv=>exact h _ ⟨σ.C.exit σ₂.C,σ₂.s⟩ ⟨X₂,x₂.same⟩ O₂.exit (hv.mono Cfg.exit_more)
end
noncomputable abbrev St.at (σ:St) (C:Cfg) (h:Heap) (t:Nat):St:=⟨C,{ σ.s with heap:=h,toks:=t }⟩
noncomputable abbrev St.tok (σ:St) (t:Nat):St:=⟨σ.C,{ σ.s with toks:=t }⟩
section
variable {g:Cx} {T:Tabs} {D D':Nat→Prop} {C C' C₀ C₁:Cfg} {h h' h₀ h₁:Heap} {a a' a₀ a₁ a₂ a₃:Hp} {n m:Nat} {σ σ':St} {sc:Scope} {vs vs' vs₁:Vars} {A:Around} {env:Env} {b c:Bool} {v u x y z:AV} {e f t l r:Expr} {p:Pos}
theorem Nx.tok {t:Nat}:Nx D b σ (σ.tok t):=⟨.grow fun _ _ e=>e,rfl⟩
theorem Nx.at {t:Nat} (x:Ext D b σ.C σ.h C' h'):Nx D b σ (σ.at C' h' t):=⟨x,rfl⟩
theorem Nx.push {t:Nat} (k:∀ x o,σ.h.get? x=some o→h'.get? x=some o):Nx D b σ (σ.at σ.C h' t):=⟨.grow k,rfl⟩
theorem Run.bind {β γ:Type} {m:Sem β} {k:β→Sem γ} {R:Cfg→β→Prop} {R':Cfg→γ→Prop} (H:Run g A σ m R a₁) (K:∀ u σ₁,Nx All true σ σ₁→Ok g σ₁.C σ₁.h a₁→R σ₁.C u→Run g A σ₁ (k u) R' a'):Run g A σ (m>>=k) R' a':=
 fun Q E h=>wpAny_bind (H _ E fun u σ₁ x O r=>K u σ₁ x O r Q E fun u' σ' x'=>h u' σ' (x.trans x'))
theorem Run.now {β:Type} {m:Sem β} {R:Cfg→β→Prop} {w:β} (hw:∀ Q E,(∀ t,Q w { σ.s with toks:=t })→wpAny g.M A m Q E σ.s) (O:Ok g σ.C σ.h a) (r:R σ.C w):Run g A σ m R a:=fun Q E h=>hw Q E fun t=>h w (σ.tok t) Nx.tok O r
theorem Run.mono {β:Type} {m:Sem β} {R R':Cfg→β→Prop} (H:Run g A σ m R a') (k:∀ C u,R C u→R' C u):Run g A σ m R' a':=fun Q E h=>H Q E fun u σ' x O r=>h u σ' x O (k _ _ r)
theorem wpAny_loadGlobalName {M:Model} {A:Around} {E:Value→Shared→Prop} {env:Env} {s:Shared} {x:Str} {Q:Value→Shared→Prop} (hk:env.scope.kind=.function) (hx:env.kindOf x=some .globalImplicit)
  (h:wpAny M A (loadGlobal env x) Q E s):wpAny M A (loadName env x) Q E s:=by
 unfold loadName
 simp only [Env.blockKind,hk,hx,ScopeKind.isAnnotationScope,Bool.false_and,Bool.false_eq_true,if_false]
 exact h
theorem EvR.loc {k:Str} (e1:look k sc.names=some .local) (e2:look k vs=some v):EvR g n sc vs (.Name k p) a v a:=by
 intro A env σ _ hE O V Q E h
 obtain ⟨q1,q2,_⟩:=hE.nm k _ e1
 obtain ⟨m,F,hm⟩:=V.fr
 have q:=q1.resolve_right fun z=>nomatch z.1
 obtain ⟨u,e3,hu⟩:=hm k v e2 q
 exact wpAny_Name (wpAny_loadName_local hE.kind q F e3 (h u σ .refl O hu)) q2
theorem EvR.cell {k:Str} {kd:NameKind} (hk:kd=.cell∨kd=.free) (e1:look k sc.names=some kd) (e2:look k vs=some v):EvR g n sc vs (.Name k p) a v a:=by
 intro A env σ _ hE O V Q E h
 obtain ⟨q1,q2,q3⟩:=hE.nm k _ e1
 have q4:env.kindOf k=some .cell∨env.kindOf k=some .free:=q1.elim (fun q=>by rcases hk with rfl|rfl;exact .inl q;exact .inr q) fun q=>.inl q.2
 obtain ⟨c,hc⟩:=hE.cell k q4
 obtain ⟨_,_,_,v0,hcell,hv⟩:=V.cells k c hc
 obtain ⟨u,rfl,hu⟩:=hv v e2 q4
 exact wpAny_Name (q4.elim (fun q=>wpAny_loadName_cell hE.kind q hc hcell (h u σ .refl O hu)) fun q=>wpAny_loadName_free hE.kind q hc hcell (h u σ .refl O hu) q3) q2
theorem EvR.glob {k:Str} (G:Gl g T) (e1:look k sc.names=some .globalImplicit) (e2:T.glob k=some v):EvR g n sc vs (.Name k p) a v a:=by
 intro A env σ _ hE O V Q E h
 obtain ⟨q1,q2,_⟩:=hE.nm k _ e1
 obtain ⟨u,hg,hr⟩:=G.glob k v e2
 exact wpAny_Name (wpAny_loadGlobalName hE.kind (q1.resolve_right fun z=>nomatch z.1) (hg _ _ _ _ _ _ hE.glb hE.blt O.stays (h u σ .refl O (hr _ O.base)))) q2
theorem EvR.none {k:Nat}:EvR g n sc vs (.Constant .none k p) a .none a:=fun _ _ σ _ _ O _ _ _ h=>Constant_none (h _ σ .refl O (.val _))
theorem EvR.bool {k:Nat}:EvR g n sc vs (.Constant (.bool b) k p) a (.bool b) a:=fun _ _ σ _ _ O _ _ _ h=>Constant_bool (h _ σ .refl O (.val _))
theorem EvR.int {i:Int} {k:Nat}:EvR g n sc vs (.Constant (.int i) k p) a (.int i) a:=fun _ _ σ _ _ O _ _ _ h=>wpAny_Constant_int (h _ (σ.tok _) Nx.tok O (.int ..))
theorem EvR.str {s:Str} {k:Nat} (hs:okS s=true):EvR g n sc vs (.Constant (.str s) k p) a (.str s) a:=fun _ _ σ _ _ O _ _ _ h=>Calls.Constant_str (h _ (σ.tok _) Nx.tok O (.str _ _ hs))
noncomputable def noStar:Expr→Bool
|.Starred ..=>false
|_=>true
theorem starEach_cons {es:List Expr} (hs:noStar e=true):starEach (e::es) env=(false,eval e env)::starEach es env:=by
 cases e<;>first|rfl|cases hs
theorem EsR.nil:EsR g n sc vs [] a [] a:=⟨fun _=>⟨rfl,rfl⟩,fun _ _ σ _ _ _ O _ _ _ h=>Calls.spliced_nil (h [] σ .refl O .nil)⟩
theorem EsR.cons {es:List Expr} {xs:List AV} (hs:noStar e=true) (H:EvR g n sc vs e a v a₁) (K:EsR g n sc vs es a₁ xs a'):EsR g n sc vs (e::es) a (v::xs) a':=by
 refine ⟨fun z=>(nomatch z),fun A env σ pos hR hE O V Q E h=>?_⟩
 rw [starEach_cons hs]
 refine Calls.spliced_cons (H A env σ hR hE O V _ E fun u σ₁ x₁ O₁ r₁=>?_)
 exact K.2 A env σ₁ pos hR hE O₁ (V.ext x₁) _ E fun us σ₂ x₂ O₂ r₂=>h _ σ₂ (x₁.trans x₂) O₂ (.cons (r₁.mono x₂.more) r₂)
theorem okS_ok {s:Str} (h:okS s=true):PyData.strOk s=true:=by
 unfold okS at h
 rw [Bool.and_eq_true] at h
 unfold PyData.strOk
 rw [← Array.all_toList]
 refine List.all_eq_true.mpr fun c hc=>?_
 have:=List.all_eq_true.mp h.1 c hc
 simpa [Nat.blt_eq] using this
theorem okS_len {s:Str} (h:okS s=true):s.length≤sizeLine:=by
 unfold okS at h
 rw [Bool.and_eq_true] at h
 exact Nat.le_trans (Nat.le_of_ble_eq_true h.2) (by decide)
theorem okS_16 {s:Str} (h:okS s=true):s.length≤16777216:=by
 unfold okS at h
 rw [Bool.and_eq_true] at h
 exact Nat.le_of_ble_eq_true h.2
noncomputable def strT (s:Str):Bool:=!strB s (Str.ofString "")
theorem strT_eq (s:Str):((s.length:Int) != 0)=strT s:=by
 have:Str.ofString ""=⟨#[]⟩:=by decide +kernel
 unfold strT
 rw [this,strB_eq]
 cases s with
|mk c=>
  show ((c.size:Int) != 0)=_
  by_cases hc:c=#[]
  ·subst hc;rfl
  ·have:c.size≠0:=fun z=>hc (Array.size_eq_zero_iff.mp z)
   rw [decide_eq_false fun z=>hc (Str.mk.inj z)]
   exact bne_iff_ne.mpr fun z=>this (Int.ofNat.inj z)
def TruR (g:Cx) (a:Hp) (v:AV) (b:Bool):Prop:=∀ A σ u,Ok g σ.C σ.h a→VRep σ.C v u→Run g A σ (truthy u) (fun _ w=>w=b) a
theorem TruR.none:TruR g a .none false:=fun A σ u O r Q E h=>by cases r;exact truthy_none (h _ σ .refl O rfl)
theorem TruR.bool:TruR g a (.bool b) b:=fun A σ u O r Q E h=>by cases r;exact wpAny_truthy_bool (h _ σ .refl O rfl)
theorem TruR.int {i:Int}:TruR g a (.int i) (i != 0):=fun A σ u O r Q E h=>by cases r;exact P.truthy_int (h _ (σ.tok _) Nx.tok O rfl)
theorem TruR.str {s:Str}:TruR g a (.str s) (strT s):=fun A σ u O r Q E h=>by
 cases r with
|str _ t hs=>exact P.truthy_str (by have:=okS_16 hs;omega) (h _ (σ.tok _) Nx.tok O (strT_eq s))
noncomputable def valTest:Expr→Bool
|.Name ..=>true
|.Call ..=>true
|.Subscript ..=>true
|.Attribute ..=>true
|.Constant ..=>true
|_=>false
theorem TvR.val (hv:valTest e=true) (H:EvR g n sc vs e a v a') (K:TruR g a' v b):TvR g n sc vs e a b a':=by
 intro A env σ hR hE O V Q E h
 have hi:isTrue e env (eval e env)=(do let v ← eval e env;standAt e.pos;holding [v] (truthy v)):=by cases e<;>first|rfl|cases hv
 refine isTrue_plain (H A env σ hR hE O V _ E fun u σ₁ x₁ O₁ r₁=>?_) hi
 exact K A σ₁ u O₁ r₁ _ _ fun w σ₂ x₂ O₂ r₂=>h w σ₂ (x₁.trans x₂) O₂ r₂
theorem TvR.not (H:TvR g n sc vs e a b a'):TvR g n sc vs (.UnaryOp .Not e p) a (!b) a':=fun A env σ hR hE O V Q E h=>
 isTrue_not (H A env σ hR hE O V _ _ fun w σ₁ x₁ O₁ r₁=>h _ σ₁ x₁ O₁ (r₁▸rfl))
theorem EvR.not (H:EvR g n sc vs e a v a') (K:TruR g a' v b):EvR g n sc vs (.UnaryOp .Not e p) a (.bool (!b)) a':=fun A env σ hR hE O V Q E h=>
 UnaryOp_ (H A env σ hR hE O V _ E fun u σ₁ x₁ O₁ r₁=>not_of (K A σ₁ u O₁ r₁ _ _ fun w σ₂ x₂ O₂ r₂=>h _ σ₂ (x₁.trans x₂) O₂ (r₂▸.val _)))
theorem EvR.neg {i:Int} (H:EvR g n sc vs e a (.int i) a'):EvR g n sc vs (.UnaryOp .USub e p) a (.int (-i)) a':=fun A env σ hR hE O V Q E h=>
 UnaryOp_ (H A env σ hR hE O V _ E fun u σ₁ x₁ O₁ r₁=>by cases r₁;exact P.neg_int (h _ (σ₁.tok _) (x₁.trans Nx.tok) O₁ (.int _ _)))
def BinR (g:Cx) (op:Operator) (x y:AV) (a:Hp) (z:AV) (a':Hp):Prop:=∀ A σ u w,Ok g σ.C σ.h a→VRep σ.C x u→VRep σ.C y w→Run g A σ (binaryOp op u w) (fun C q=>VRep C z q) a'
theorem EvR.bin {op:Operator} (H:EvR g n sc vs l a x a₁) (K:EvR g n sc vs r a₁ y a₂) (B:BinR g op x y a₂ z a'):EvR g n sc vs (.BinOp l op r p) a z a':=by
 intro A env σ hR hE O V Q E h
 rw [eval_BinOp]
 refine wpAny_bind (H A env σ hR hE O V _ E fun u σ₁ x₁ O₁ r₁=>?_)
 refine wpAny_bind (wpAny_holding (K A env σ₁ hR hE O₁ (V.ext x₁) _ E fun u' σ₂ x₂ O₂ r₂=>?_))
 exact wpAny_bind (wpAny_standAt (wpAny_operate' (B A σ₂ u u' O₂ (r₁.mono x₂.more) r₂ _ _ fun w σ₃ x₃=>h w σ₃ ((x₁.trans x₂).trans x₃))))
theorem BinR.addI {i j:Int}:BinR g .Add (.int i) (.int j) a (.int (i+j)) a:=fun A σ u w O r r' Q E h=>by cases r;cases r';exact P.add_int (h _ (σ.tok _) Nx.tok O (.int ..))
theorem BinR.subI {i j:Int}:BinR g .Sub (.int i) (.int j) a (.int (i - j)) a:=fun A σ u w O r r' Q E h=>by cases r;cases r';exact P.sub_int (h _ (σ.tok _) Nx.tok O (.int ..))
theorem okS_append {s t:Str} (hs:okS s=true) (ht:okS t=true) (h:Nat.ble (s.length+t.length) cap=true):okS (s++t)=true:=by
 unfold okS at hs ht ⊢
 rw [Bool.and_eq_true] at hs ht ⊢
 have e:(s++t).cps=s.cps++t.cps:=rfl
 refine ⟨?_,Nat.ble_eq_true_of_le ?_⟩
 ·rw [e,Array.toList_append,List.all_append,hs.1,ht.1];rfl
 ·have e2:(s++t).length=s.length+t.length:=by show (s++t).cps.size=_;rw [e,Array.size_append];rfl
  rw [e2]
  exact Nat.le_trans (Nat.le_of_ble_eq_true h) (by decide)
theorem BinR.addS {s q:Str} (hl:Nat.ble (s.length+q.length) cap=true):BinR g .Add (.str s) (.str q) a (.str (s++q)) a:=fun A σ u w O r r' Q E h=>by
 cases r with|str _ t1 h1=>cases r' with|str _ t2 h2=>
 exact PyProof.Rows.add_str (fun t' tk=>h _ (σ.tok _) Nx.tok O (.str _ _ (okS_append h1 h2 hl))) (cap_size (Nat.le_of_ble_eq_true hl))
theorem EvR.ife {q:Expr} (H:TvR g n sc vs t a c a₁) (K:EvR g n sc vs (bif c then e else q) a₁ v a'):EvR g n sc vs (.IfExp t e q p) a v a':=fun A env σ hR hE O V Q E h=>by
 refine IfExp_ (H A env σ hR hE O V _ E fun w σ₁ x₁ O₁ r₁=>?_)
 have z:=K A env σ₁ hR hE O₁ (V.ext x₁) Q E fun u σ₂ x₂=>h u σ₂ (x₁.trans x₂)
 subst r₁
 cases w<;>exact z
theorem EvR.and1 {es:List Expr} (H:EvR g n sc vs e a v a') (K:TruR g a' v false):EvR g n sc vs (.BoolOp .And (e::f::es) p) a v a':=fun A env σ hR hE O V Q E h=>
 BoolOp_and (H A env σ hR hE O V _ E fun u σ₁ x₁ O₁ r₁=>K A σ₁ u O₁ r₁ _ _ fun w σ₂ x₂ O₂ r₂=>by subst r₂;exact h u σ₂ (x₁.trans x₂) O₂ (r₁.mono x₂.more))
theorem EvR.and2 {es:List Expr} (H:EvR g n sc vs e a u a₁) (K:TruR g a₁ u true) (L:EvR g n sc vs (.BoolOp .And (f::es) p) a₁ v a'):EvR g n sc vs (.BoolOp .And (e::f::es) p) a v a':=fun A env σ hR hE O V Q E h=>
 BoolOp_and (H A env σ hR hE O V _ E fun u σ₁ x₁ O₁ r₁=>K A σ₁ u O₁ r₁ _ _ fun w σ₂ x₂ O₂ r₂=>by
  subst r₂
  exact L A env σ₂ hR hE O₂ (V.ext (x₁.trans x₂)) _ E fun u σ₃ x₃=>h u σ₃ ((x₁.trans x₂).trans x₃))
theorem EvR.or1 {es:List Expr} (H:EvR g n sc vs e a v a') (K:TruR g a' v true):EvR g n sc vs (.BoolOp .Or (e::f::es) p) a v a':=fun A env σ hR hE O V Q E h=>
 BoolOp_or (H A env σ hR hE O V _ E fun u σ₁ x₁ O₁ r₁=>K A σ₁ u O₁ r₁ _ _ fun w σ₂ x₂ O₂ r₂=>by subst r₂;exact h u σ₂ (x₁.trans x₂) O₂ (r₁.mono x₂.more))
theorem EvR.or2 {es:List Expr} (H:EvR g n sc vs e a u a₁) (K:TruR g a₁ u false) (L:EvR g n sc vs (.BoolOp .Or (f::es) p) a₁ v a'):EvR g n sc vs (.BoolOp .Or (e::f::es) p) a v a':=fun A env σ hR hE O V Q E h=>
 BoolOp_or (H A env σ hR hE O V _ E fun u σ₁ x₁ O₁ r₁=>K A σ₁ u O₁ r₁ _ _ fun w σ₂ x₂ O₂ r₂=>by
  subst r₂
  exact L A env σ₂ hR hE O₂ (V.ext (x₁.trans x₂)) _ E fun u σ₃ x₃=>h u σ₃ ((x₁.trans x₂).trans x₃))
theorem EvR.one {op:BoolOp} (H:EvR g n sc vs e a v a'):EvR g n sc vs (.BoolOp op [e] p) a v a':=fun A env σ hR hE O V Q E h=>BoolOp_one (H A env σ hR hE O V Q E h)
def TsR (g:Cx) (n:Nat) (op:BoolOp) (sc:Scope) (vs:Vars) (es:List Expr) (a:Hp) (b:Bool) (a':Hp):Prop:=∀ A env σ p,Room n A→EnvOk env sc→Ok g σ.C σ.h a→VR g σ env vs→∀ whole,Run g A σ (isTrue (.BoolOp op es p) env whole) (fun _ u=>u=b) a'
theorem TvR.ops {op:BoolOp} {es:List Expr} (H:TsR g n op sc vs es a b a'):TvR g n sc vs (.BoolOp op es p) a b a':=fun A env σ hR hE O V=>H A env σ p hR hE O V _
theorem TsR.and0:TsR g n .And sc vs [] a true a:=fun A env σ p _ _ O _ _ Q E h=>isTrue_and_nil (h _ σ .refl O rfl)
theorem TsR.or0:TsR g n .Or sc vs [] a false a:=fun A env σ p _ _ O _ _ Q E h=>isTrue_or_nil (h _ σ .refl O rfl)
theorem TsR.andF {es:List Expr} (H:TvR g n sc vs e a false a'):TsR g n .And sc vs (e::es) a false a':=fun A env σ p hR hE O V _ Q E h=>isTrue_and (H A env σ hR hE O V _ E fun w σ₁ x₁ O₁ r₁=>by subst r₁;exact h _ σ₁ x₁ O₁ rfl)
theorem TsR.andT {es:List Expr} (H:TvR g n sc vs e a true a₁) (K:TsR g n .And sc vs es a₁ b a'):TsR g n .And sc vs (e::es) a b a':=fun A env σ p hR hE O V w Q E h=>isTrue_and (H A env σ hR hE O V _ E fun w σ₁ x₁ O₁ r₁=>by
 subst r₁
 exact K A env σ₁ p hR hE O₁ (V.ext x₁) _ Q E fun u σ₂ x₂=>h u σ₂ (x₁.trans x₂))
theorem TsR.orT {es:List Expr} (H:TvR g n sc vs e a true a'):TsR g n .Or sc vs (e::es) a true a':=fun A env σ p hR hE O V _ Q E h=>isTrue_or (H A env σ hR hE O V _ E fun w σ₁ x₁ O₁ r₁=>by subst r₁;exact h _ σ₁ x₁ O₁ rfl)
theorem TsR.orF {es:List Expr} (H:TvR g n sc vs e a false a₁) (K:TsR g n .Or sc vs es a₁ b a'):TsR g n .Or sc vs (e::es) a b a':=fun A env σ p hR hE O V w Q E h=>isTrue_or (H A env σ hR hE O V _ E fun w σ₁ x₁ O₁ r₁=>by
 subst r₁
 exact K A env σ₁ p hR hE O₁ (V.ext x₁) _ Q E fun u σ₂ x₂=>h u σ₂ (x₁.trans x₂))
def CmpR (g:Cx) (op:CmpOp) (x y:AV) (a:Hp) (b:Bool):Prop:=∀ n A σ u w,Room n A→Ok g σ.C σ.h a→VRep σ.C x u→VRep σ.C y w→Run g A σ (compareOp op u w) (fun _ q=>q=.bool b) a
noncomputable def noSet:Expr→Bool
|.Set ..=>false
|_=>true
theorem marks1 {op:CmpOp} (h:noSet e=true):lastMarks [op] [e]=false:=by
 show behindInMarks op e=false
 cases e<;>first|rfl|cases h
theorem EvR.cmp {op:CmpOp} (hs:noSet r=true) (H:EvR g n sc vs l a x a₁) (K:EvR g n sc vs r a₁ y a') (B:CmpR g op x y a' b):EvR g n sc vs (.Compare l [op] [r] p) a (.bool b) a':=by
 intro A env σ hR hE O V Q E h
 show wpAny _ A (do compareChain p (← eval l env) [op] (markedEach [op] [r] (evalEach [r] env))) Q E σ.s
 rw [markedEach_of_false _ _ _ (marks1 hs)]
 refine wpAny_bind (H A env σ hR hE O V _ E fun u σ₁ x₁ O₁ r₁=>?_)
 refine chain_last (K A env σ₁ hR hE O₁ (V.ext x₁) _ E fun w σ₂ x₂ O₂ r₂=>?_)
 exact B n A σ₂ u w hR O₂ (r₁.mono x₂.more) r₂ _ _ fun q σ₃ x₃ O₃ r₃=>h q σ₃ ((x₁.trans x₂).trans x₃) O₃ (r₃▸.val _)
theorem TvR.cmp {op:CmpOp} (hs:noSet r=true) (H:EvR g n sc vs l a x a₁) (K:EvR g n sc vs r a₁ y a') (B:CmpR g op x y a' b):TvR g n sc vs (.Compare l [op] [r] p) a b a':=by
 intro A env σ hR hE O V Q E h
 show wpAny _ A (do testChain p (← eval l env) [op] (markedEach [op] [r] (evalEach [r] env))) Q E σ.s
 rw [markedEach_of_false _ _ _ (marks1 hs)]
 refine wpAny_bind (H A env σ hR hE O V _ E fun u σ₁ x₁ O₁ r₁=>?_)
 refine test_last (K A env σ₁ hR hE O₁ (V.ext x₁) _ E fun w σ₂ x₂ O₂ r₂=>?_)
 exact B n A σ₂ u w hR O₂ (r₁.mono x₂.more) r₂ _ _ fun q σ₃ x₃ O₃ r₃=>r₃▸wpAny_truthy_bool (h b σ₃ ((x₁.trans x₂).trans x₃) O₃ rfl)
theorem EvR.cmp2 {op op':CmpOp} {q:Expr} {w:AV} (hs:(noSet r&&noSet q)=true) (H:EvR g n sc vs l a x a₁) (K:EvR g n sc vs r a₁ y a₂) (B:CmpR g op x y a₂ true) (L:EvR g n sc vs q a₂ w a') (B':CmpR g op' y w a' b):EvR g n sc vs (.Compare l [op,op'] [r,q] p) a (.bool b) a':=by
 intro A env σ hR hE O V Q E h
 rw [Bool.and_eq_true] at hs
 show wpAny _ A (do compareChain p (← eval l env) [op,op'] (markedEach [op,op'] [r,q] (evalEach [r,q] env))) Q E σ.s
 rw [markedEach_of_false _ _ _ (show lastMarks [op,op'] [r,q]=false from marks1 hs.2)]
 refine wpAny_bind (H A env σ hR hE O V _ E fun u σ₁ x₁ O₁ r₁=>?_)
 refine chain_link (r:=eval r env) (r':=eval q env) (rs:=[]) (K A env σ₁ hR hE O₁ (V.ext x₁) _ E fun w σ₂ x₂ O₂ r₂=>?_)
 have x₁₂:=x₁.trans x₂
 refine B n A σ₂ u w hR O₂ (r₁.mono x₂.more) r₂ _ _ fun q σ₃ x₃ O₃ r₃=>?_
 subst r₃
 refine wpAny_truthy_bool ?_
 rw [if_pos rfl]
 have x₁₃:=x₁₂.trans x₃
 refine chain_last (L A env σ₃ hR hE O₃ (V.ext x₁₃) _ E fun w' σ₄ x₄ O₄ r₄=>?_)
 exact B' n A σ₄ w w' hR O₄ ((r₂.mono x₃.more).mono x₄.more) r₄ _ _ fun q σ₅ x₅ O₅ r₅=>h q σ₅ ((x₁₃.trans x₄).trans x₅) O₅ (r₅▸.val _)
theorem TvR.cmp2 {op op':CmpOp} {q:Expr} {w:AV} (hs:(noSet r&&noSet q)=true) (H:EvR g n sc vs l a x a₁) (K:EvR g n sc vs r a₁ y a₂) (B:CmpR g op x y a₂ true) (L:EvR g n sc vs q a₂ w a') (B':CmpR g op' y w a' b):TvR g n sc vs (.Compare l [op,op'] [r,q] p) a b a':=by
 intro A env σ hR hE O V Q E h
 rw [Bool.and_eq_true] at hs
 show wpAny _ A (do testChain p (← eval l env) [op,op'] (markedEach [op,op'] [r,q] (evalEach [r,q] env))) Q E σ.s
 rw [markedEach_of_false _ _ _ (show lastMarks [op,op'] [r,q]=false from marks1 hs.2)]
 refine wpAny_bind (H A env σ hR hE O V _ E fun u σ₁ x₁ O₁ r₁=>?_)
 refine test_link (r:=eval r env) (r':=eval q env) (rs:=[]) (K A env σ₁ hR hE O₁ (V.ext x₁) _ E fun w σ₂ x₂ O₂ r₂=>?_)
 have x₁₂:=x₁.trans x₂
 refine B n A σ₂ u w hR O₂ (r₁.mono x₂.more) r₂ _ _ fun q σ₃ x₃ O₃ r₃=>?_
 subst r₃
 refine wpAny_truthy_bool ?_
 rw [if_pos rfl]
 have x₁₃:=x₁₂.trans x₃
 refine test_last (L A env σ₃ hR hE O₃ (V.ext x₁₃) _ E fun w' σ₄ x₄ O₄ r₄=>?_)
 exact B' n A σ₄ w w' hR O₄ ((r₂.mono x₃.more).mono x₄.more) r₄ _ _ fun q σ₅ x₅ O₅ r₅=>r₅▸wpAny_truthy_bool (h b σ₅ ((x₁₃.trans x₄).trans x₅) O₅ rfl)
theorem CmpR.lt {i j:Int}:CmpR g .Lt (.int i) (.int j) a (decide (i<j)):=fun n A σ u w _ O r r'=>by cases r;cases r';exact .now (fun _ _ h=>P.lt_int (h σ.s.toks)) O rfl
theorem CmpR.le {i j:Int}:CmpR g .LtE (.int i) (.int j) a (decide (i≤j)):=fun n A σ u w _ O r r'=>by cases r;cases r';exact .now (fun _ _ h=>P.le_int (h σ.s.toks)) O rfl
theorem CmpR.gt {i j:Int}:CmpR g .Gt (.int i) (.int j) a (decide (j<i)):=fun n A σ u w _ O r r'=>by cases r;cases r';exact .now (fun _ _ h=>P.gt_int (h σ.s.toks)) O rfl
theorem CmpR.isN:CmpR g .Is .none .none a true:=fun n A σ u w _ O r r'=>by cases r;cases r';exact .now (fun _ _ h=>is_none_none (h σ.s.toks)) O rfl
theorem CmpR.isnN:CmpR g .IsNot .none .none a false:=fun n A σ u w _ O r r'=>by cases r;cases r';exact .now (fun _ _ h=>isnot_none_none (h σ.s.toks)) O rfl
noncomputable def someV:AV→Bool
|.int _=>true
|.str _=>true
|.loc ..=>true
|_=>false
theorem someV_ne {w:Value} (e:someV v=true) (r:VRep C v w):w≠.none:=by
 cases r<;>first|(intro z;cases z;done)|cases e
theorem CmpR.isS (e:someV v=true):CmpR g .Is v .none a false:=fun n A σ u w _ O r r'=>by cases r';exact .now (fun _ _ h=>is_none_ne (someV_ne e r) (h σ.s.toks)) O rfl
theorem CmpR.isnS (e:someV v=true):CmpR g .IsNot v .none a true:=fun n A σ u w _ O r r'=>by cases r';exact .now (fun _ _ h=>isnot_none_ne (someV_ne e r) (h σ.s.toks)) O rfl
end
theorem VRep.inv_int {C:Cfg} {i:Int} {u:Value} (r:VRep C (.int i) u):∃ t,u=.int i t:=by cases r;exact ⟨_,rfl⟩
theorem VRep.inv_str {C:Cfg} {s:Str} {u:Value} (r:VRep C (.str s) u):∃ t,u=.str s t∧okS s=true:=by
 cases r with
|str _ t h=>exact ⟨t,rfl,h⟩
theorem VRep.inv_loc {C:Cfg} {n:Nat} {p:Part} {u:Value} (r:VRep C (.loc n p) u):u=.ref (C.rho n p)∧C.dom n p:=by
 cases r with
|loc _ _ d=>exact ⟨rfl,d⟩
theorem VRep.inv_tup {C:Cfg} {xs:List AV} {u:Value} (r:VRep C (.tup xs) u):∃ x us k,u=.ref x∧C.fz x=some (tupObj us k)∧VReps C xs us∧xs.length≤cap:=by
 cases r with
|tup h r l=>exact ⟨_,_,_,rfl,h,r,l⟩
theorem VRep.inv_lst {C:Cfg} {xs:List AV} {u:Value} (r:VRep C (.lst xs) u):∃ x us k,u=.ref x∧C.fz x=some (lstObj us k)∧VReps C xs us∧xs.length≤cap:=by
 cases r with
|lst h r _ l=>exact ⟨_,_,_,rfl,h,r,l⟩
theorem VRep.inv_val {C:Cfg} {v u:Value} (r:VRep C (.val v) u):u=v:=by cases r;rfl
noncomputable def listOf (a:Hp):AV→Option (List AV)
|.lst xs=>some xs
|.loc n p=>(viewAt a n p).bind fun po=>match po with
 |.list xs=>some xs
 |_=>none
|_=>none
section
variable {g:Cx} {T:Tabs} {D D':Nat→Prop} {C C' C₀ C₁:Cfg} {h h' h₀ h₁:Heap} {a a' a₀ a₁ a₂ a₃:Hp} {n m:Nat} {σ σ':St} {sc:Scope} {vs vs' vs₁:Vars} {A:Around} {env:Env} {b c:Bool} {v u x y z:AV} {e f t l r:Expr} {p:Pos} {xs ys:List AV}
theorem Ok.listOf (O:Ok g C h a) {u:Value} (e:Mine.listOf a x=some xs) (r:VRep C x u):∃ l us k,u=.ref l∧h.get? l=some (lstObj us k)∧VReps C xs us∧xs.length≤cap:=by
 cases x with
|lst ys=>
  obtain rfl:=Option.some.inj e
  obtain ⟨l,us,k,rfl,z,r,hl⟩:=r.inv_lst
  exact ⟨l,us,k,rfl,O.fzh _ _ z,r,hl⟩
|loc n p=>
  obtain ⟨rfl,_⟩:=r.inv_loc
  obtain ⟨po,e1,e2⟩:=Option.bind_eq_some_iff.mp e
  obtain ⟨_,_,R⟩:=O.part e1
  cases po<;>first|(cases e2;done)|skip
  obtain rfl:=Option.some.inj e2
  obtain ⟨us,k,z⟩:=R
  exact ⟨_,us,k,rfl,z⟩
|_=>cases e
theorem strs_reads {l:List Str}:∀ {us:List Value},VReps C (strsAV l) us→ReadsAll h us (l.map .str) []∧PyData.canLayAll0 (l.map .str)=true∧PyData.depthAll (l.map .str)=0:=by
 induction l with
|nil=>intro us r;cases r;exact ⟨.nil,rfl,rfl⟩
|cons s l ih=>
  intro us r
  cases r with
 |cons r1 r=>
   obtain ⟨t,rfl,hs⟩:=r1.inv_str
   obtain ⟨z1,z2,z3⟩:=ih r
   refine ⟨ReadsAll.cons (as:=[]) (.str s t) z1,?_,?_⟩
   ·rw [List.map_cons,PyData.canLayAll0,z2,PyData.canLay0,okS_ok hs];rfl
   ·rw [List.map_cons,PyData.depthAll,z3,PyData.depth];rfl
noncomputable def pdP (q:Str×Str):PyData:=.tuple [.str q.1,.str q.2]
theorem prs_reads (F:∀ x o,C.fz x=some o→h.get? x=some o) {l:SS}:∀ {us:List Value},VReps C (prsAV l) us→∃ as,ReadsAll h us (l.map pdP) as∧PyData.canLayAll0 (l.map pdP)=true∧PyData.depthAll (l.map pdP)≤1:=by
 induction l with
|nil=>intro us r;cases r;exact ⟨_,.nil,rfl,Nat.zero_le _⟩
|cons q l ih=>
  intro us r
  cases r with
 |cons r1 r=>
   obtain ⟨x,ws,k,rfl,hf,r2,_⟩:=r1.inv_tup
   obtain ⟨z1,z2,z3⟩:=strs_reads (h:=h) (l:=[q.1,q.2]) r2
   obtain ⟨as,y1,y2,y3⟩:=ih r
   refine ⟨_,.cons (.tuple (F _ _ hf) rfl rfl z1) y1,?_,?_⟩
   ·rw [List.map_cons,PyData.canLayAll0,y2,pdP,PyData.canLay0];rw [show PyData.canLayAll0 [.str q.1,.str q.2]=true from z2];rfl
   ·rw [List.map_cons,PyData.depthAll,pdP,PyData.depth,show PyData.depthAll [.str q.1,.str q.2]=0 from z3]
    exact Nat.max_le.mpr ⟨Nat.le_refl _,y3⟩
def Dat (xs:List AV) (ds:List PyData):Prop:=(∃ l,xs=strsAV l∧ds=l.map .str)∨∃ l,xs=prsAV l∧ds=l.map pdP
theorem Dat.reads (O:Ok g C h a) {ds:List PyData} {u:Value} (hd:Dat xs ds) (e:Mine.listOf a x=some xs) (r:VRep C x u):∃ as,Reads h u (.list ds) as∧SeqAt.shaped (.list ds)=true:=by
 obtain ⟨l,us,k,rfl,z1,z2,_⟩:=O.listOf e r
 have fin:∀ {as},ReadsAll h us ds as→PyData.canLayAll0 ds=true→PyData.depthAll ds≤1→∃ as,Reads h (.ref l) (.list ds) as∧SeqAt.shaped (.list ds)=true:=fun y1 y2 y3=>by
  refine ⟨_,.list z1 rfl rfl y1,?_⟩
  unfold SeqAt.shaped
  rw [PyData.canLay0,PyData.depth,y2]
  exact decide_eq_true (by omega)
 rcases hd with ⟨q,rfl,rfl⟩|⟨q,rfl,rfl⟩
 ·obtain ⟨y1,y2,y3⟩:=strs_reads (h:=h) z2
  exact fin y1 y2 (y3▸Nat.zero_le _)
 ·obtain ⟨as,y1,y2,y3⟩:=prs_reads O.fzh z2
  exact fin y1 y2 y3
theorem eqv_same {ds:List PyData} (hd:Dat xs ds):PyData.eqv (.list ds) (.list ds)=true:=by
 rw [PyData.eqv]
 rcases hd with ⟨q,h,rfl⟩|⟨q,h,rfl⟩
 ·clear h
  induction q with
 |nil=>rfl
 |cons s l ih=>rw [List.map_cons,PyData.eqvAll,ih,PyData.eqv];simp
 ·clear h
  induction q with
 |nil=>rfl
 |cons s l ih=>rw [List.map_cons,PyData.eqvAll,ih,pdP,PyData.eqv,PyData.eqvAll,PyData.eqvAll,PyData.eqv,PyData.eqv];simp [PyData.eqvAll]
inductive EqL (xs ys:List AV):Bool→Prop
|same {ds:List PyData}:Dat xs ds→xs=ys→EqL xs ys true
|diff {q:AV} {qs:List AV} {ds:List PyData}:Dat xs ds→xs=q::qs→ys=[]→EqL xs ys false
theorem EqL.reads (O:Ok g C h a) {w w':Value} (E:EqL xs ys b) (e1:Mine.listOf a x=some xs) (e2:Mine.listOf a y=some ys) (r:VRep C x w) (r':VRep C y w'):
  ∃ as bs ds ds',Reads h w (.list ds) as∧Reads h w' (.list ds') bs∧SeqAt.shaped (.list ds)=true∧SeqAt.shaped (.list ds')=true∧PyData.eqv (.list ds) (.list ds')=b:=by
 cases E with
|same hd e=>
  subst e
  obtain ⟨as,z1,z2⟩:=hd.reads O e1 r
  obtain ⟨bs,y1,_⟩:=hd.reads O e2 r'
  exact ⟨as,bs,_,_,z1,y1,z2,z2,eqv_same hd⟩
|diff hd e e'=>
  rename_i q qs ds
  subst e'
  obtain ⟨as,z1,z2⟩:=hd.reads O e1 r
  obtain ⟨bs,y1,y2⟩:=Dat.reads O (xs:=[]) (ds:=[]) (.inl ⟨[],rfl,rfl⟩) e2 r'
  refine ⟨as,bs,_,_,z1,y1,z2,y2,?_⟩
  rw [PyData.eqv]
  cases ds with
 |nil=>
   rcases hd with ⟨l,e1,e2⟩|⟨l,e1,e2⟩<;>(cases l<;>first|(rw [e] at e1;cases e1;done)|cases e2)
 |cons d ds=>rfl
theorem CmpR.eqL (E:EqL xs ys b) (e1:Mine.listOf a x=some xs) (e2:Mine.listOf a y=some ys):CmpR g .Eq x y a b:=fun n A σ u w hR O r r'=>by
 obtain ⟨as,bs,ds,ds',z1,z2,z3,z4,z5⟩:=E.reads O e1 e2 r r'
 exact .now (fun _ _ h=>SeqAt.compareEq_shaped z1 z2 z3 z4 hR.u64 (h σ.s.toks)) O (by rw [z5])
theorem CmpR.neL (E:EqL xs ys b) (e1:Mine.listOf a x=some xs) (e2:Mine.listOf a y=some ys):CmpR g .NotEq x y a (!b):=fun n A σ u w hR O r r'=>by
 obtain ⟨as,bs,ds,ds',z1,z2,z3,z4,z5⟩:=E.reads O e1 e2 r r'
 exact .now (fun _ _ h=>SeqAt.compareNe_shaped z1 z2 z3 z4 hR.u64 (h σ.s.toks)) O (by rw [z5])
theorem CmpR.eqS {s q:Str}:CmpR g .Eq (.str s) (.str q) a (strB s q):=fun n A σ u w _ O r r'=>by
 obtain ⟨t,rfl,_⟩:=r.inv_str
 obtain ⟨t',rfl,_⟩:=r'.inv_str
 exact .now (fun _ _ h=>PyProof.Rows.eq_str (h σ.s.toks)) O (by rw [strB_beq])
theorem CmpR.neS {s q:Str}:CmpR g .NotEq (.str s) (.str q) a (!strB s q):=fun n A σ u w _ O r r'=>by
 obtain ⟨t,rfl,_⟩:=r.inv_str
 obtain ⟨t',rfl,_⟩:=r'.inv_str
 exact .now (fun _ _ h=>PyProof.Rows.ne_str (h σ.s.toks)) O (by rw [strB_beq];rfl)
theorem CmpR.eqI {i j:Int}:CmpR g .Eq (.int i) (.int j) a (i==j):=fun n A σ u w _ O r r'=>by
 obtain ⟨t,rfl⟩:=r.inv_int
 obtain ⟨t',rfl⟩:=r'.inv_int
 exact .now (fun _ _ h=>PyProof.Rows.eq_int (h σ.s.toks)) O rfl
theorem CmpR.neI {i j:Int}:CmpR g .NotEq (.int i) (.int j) a (i != j):=fun n A σ u w _ O r r'=>by
 obtain ⟨t,rfl⟩:=r.inv_int
 obtain ⟨t',rfl⟩:=r'.inv_int
 exact .now (fun _ _ h=>PyProof.Rows.ne_int (h σ.s.toks)) O rfl
theorem CmpR.neNS {s:Str}:CmpR g .NotEq (.str s) .none a true:=fun n A σ u w _ O r r'=>by
 obtain ⟨t,rfl,_⟩:=r.inv_str
 obtain rfl:=r'.inv_val
 exact .now (fun _ _ h=>EqNone.ne_str_none (h σ.s.toks)) O rfl
noncomputable def subB (s t:Str):Bool:=!(Builtin.Str.occurrences t s 0 t.length 1).isEmpty
noncomputable def inB (s:Str) (l:List Str):Bool:=l.any fun t=>strB t s
theorem any_eqv (s:Str) (l:List Str):((l.map PyData.str).any fun y=>PyData.eqv y (.str s))=inB s l:=by
 induction l with
|nil=>rfl
|cons t l ih=>rw [List.map_cons,List.any_cons,inB,List.any_cons,ih,PyData.eqv,strB_beq];rfl
def InR (g:Cx) (x y:AV) (a:Hp) (b:Bool):Prop:=CmpR g .In x y a b∧CmpR g .NotIn x y a (!b)
theorem InR.str {s q:Str}:InR g (.str s) (.str q) a (subB s q):=by
 constructor
 all_goals
  intro n A σ u w _ O r r'
  obtain ⟨t,rfl,_⟩:=r.inv_str
  obtain ⟨t',rfl,_⟩:=r'.inv_str
 ·exact .now (fun _ _ h=>P.in_str (h σ.s.toks)) O rfl
 ·exact .now (fun _ _ h=>P.notIn_str (h σ.s.toks)) O rfl
theorem InR.tup {s:Str} {l:List Str} (e:xs=strsAV l):InR g (.str s) (.tup xs) a (inB s l):=by
 subst e
 constructor
 all_goals
  intro n A σ u w hR O r r'
  obtain ⟨t,rfl,h1⟩:=r.inv_str
  obtain ⟨x,us,k,rfl,hf,rs,_⟩:=r'.inv_tup
  obtain ⟨z1,z2,z3⟩:=strs_reads (h:=σ.h) rs
  have R:=Reads.tuple (O.fzh _ _ hf) rfl rfl z1
  have hd:(PyData.str s).canLay0=true:=okS_ok h1
  have hu:A.units+1+min (PyData.depthAll (l.map PyData.str)) (PyData.str s).depth<cLine:=by rw [z3,Nat.zero_min];have:=hR.u64;omega
 ·exact .now (fun _ _ h=>SeqAt.in_tuple_reads R (.str s t) z2 hd hu (h σ.s.toks)) O (by rw [any_eqv])
 ·exact .now (fun _ _ h=>SeqAt.notIn_tuple_reads R (.str s t) z2 hd hu (h σ.s.toks)) O (by rw [any_eqv])
theorem InR.list {s:Str} {l:List Str} (e:Mine.listOf a y=some (strsAV l)):InR g (.str s) y a (inB s l):=by
 constructor
 all_goals
  intro n A σ u w hR O r r'
  obtain ⟨t,rfl,h1⟩:=r.inv_str
  obtain ⟨x,us,k,rfl,hf,rs,_⟩:=O.listOf e r'
  obtain ⟨z1,z2,z3⟩:=strs_reads (h:=σ.h) rs
  have R:=Reads.list hf rfl rfl z1
  have hd:(PyData.str s).canLay0=true:=okS_ok h1
  have hu:A.units+1+min (PyData.depthAll (l.map PyData.str)) (PyData.str s).depth<cLine:=by rw [z3,Nat.zero_min];have:=hR.u64;omega
 ·exact .now (fun _ _ h=>SeqAt.in_list_reads R (.str s t) z2 hd hu (h σ.s.toks)) O (by rw [any_eqv])
 ·exact .now (fun _ _ h=>SeqAt.notIn_list_reads R (.str s t) z2 hd hu (h σ.s.toks)) O (by rw [any_eqv])
theorem SPairs.at_ {es:SS} {kvs:List (Str×Value)} (h:SPairs es kvs) (k:Str):(∀ s,look k es=some s→∃ t,valueAt kvs k=some (.str s t)∧okS s=true)∧(look k es=none→valueAt kvs k=none):=by
 induction h with
|nil=>exact ⟨fun _ e=>(nomatch e),fun _=>rfl⟩
|cons h1 h2 r ih=>
  rename_i k' s' t' es kvs
  rw [look_cons]
  unfold valueAt
  rw [List.find?_cons]
  by_cases hk:k=k'
  ·subst hk
   rw [if_pos rfl,decide_eq_true rfl]
   exact ⟨fun s e=>by cases e;exact ⟨t',rfl,h2⟩,fun e=>nomatch e⟩
  ·rw [if_neg hk,decide_eq_false fun e=>hk e.symm]
   exact ih
theorem IPairs.at_ {es:List (Int×AV)} {kvs:List (Int×Value)} (h:IPairs C es kvs) (k:Int):(∀ v,lookI k es=some v→∃ u,valueAt kvs k=some u∧VRep C v u)∧(lookI k es=none→valueAt kvs k=none):=by
 induction h with
|nil=>exact ⟨fun _ e=>(nomatch e),fun _=>rfl⟩
|cons hv r ih=>
  rename_i k' x v es kvs
  unfold lookI valueAt
  rw [List.find?_cons]
  by_cases hk:k=k'
  ·subst hk
   rw [if_pos rfl,decide_eq_true rfl]
   exact ⟨fun v e=>by cases e;exact ⟨_,rfl,hv⟩,fun e=>nomatch e⟩
  ·rw [if_neg hk,decide_eq_false fun e=>hk e.symm]
   exact ih
theorem isSome_of {α β:Type} {o:Option α} {o':Option β} (h1:∀ x,o=some x→o'.isSome=true) (h2:o=none→o'=none):o'.isSome=o.isSome:=by
 cases o with
|none=>rw [h2 rfl];rfl
|some x=>rw [h1 x rfl];rfl
theorem InR.dss {s:Str} {es:SS} (e:viewAt a n .root=some (.dictS es)):InR g (.str s) (.loc n .root) a (look s es).isSome:=by
 constructor
 all_goals
  intro _ A σ u w _ O r r'
  obtain ⟨t,rfl,_⟩:=r.inv_str
  obtain ⟨rfl,_⟩:=r'.inv_loc
  obtain ⟨_,_,kvs,z1,z2,z3⟩:=O.part e
  have key:(valueAt kvs s).isSome=(look s es).isSome:=isSome_of (fun x e=>by obtain ⟨t,e,_⟩:=(z2.at_ s).1 x e;rw [e];rfl) (z2.at_ s).2
 ·exact .now (fun _ _ h=>wpAny_in_of (strKind_is _ _ _ _) z3 z1.mapOf (h _)) O (by rw [key])
 ·exact .now (fun _ _ h=>wpAny_notIn_of (strKind_is _ _ _ _) z3 z1.mapOf (h _)) O (by rw [key])
theorem InR.dictI {i:Int} {es:List (Int×AV)} (e:viewAt a n .root=some (.dictI es)):InR g (.int i) (.loc n .root) a (lookI i es).isSome:=by
 constructor
 all_goals
  intro _ A σ u w _ O r r'
  obtain ⟨t,rfl⟩:=r.inv_int
  obtain ⟨rfl,_⟩:=r'.inv_loc
  obtain ⟨_,_,kvs,z1,z2,z3⟩:=O.part e
  have key:(valueAt kvs i).isSome=(lookI i es).isSome:=isSome_of (fun x e=>by obtain ⟨t,e,_⟩:=(z2.at_ i).1 x e;rw [e];rfl) (z2.at_ i).2
 ·exact .now (fun _ _ h=>wpAny_in_of (intKind_is _ _ _ _) z3 z1.mapOf (h _)) O (by rw [key])
 ·exact .now (fun _ _ h=>wpAny_notIn_of (intKind_is _ _ _ _) z3 z1.mapOf (h _)) O (by rw [key])
end
noncomputable def itemsO:AObj→Option (List AV)
|.list xs=>some xs
|.txs l=>some (strsAV l)
|.ixs l=>some (intsAV l)
|.prs l=>some (prsAV l)
|_=>none
theorem itemsO_view {n:Nat} {o:AObj} {xs:List AV} (e:itemsO o=some xs):view n o .root=some (.list xs)∧∀ p po,view n o p=some po→p=.root:=by
 cases o<;>first|(cases e;done)|(cases e;exact ⟨rfl,fun p po h=>by cases p<;>first|rfl|cases h⟩)
theorem sub_plain {e:Expr} {o i:Value} (he:∀ l u st p,e≠.Slice l u st p):subscripted e false o i=operate [o,i] (getItem o i):=by
 cases e<;>first|rfl|exact absurd rfl (he _ _ _ _)
noncomputable def noSlice:Expr→Bool
|.Slice ..=>false
|_=>true
theorem noSlice_ne {e:Expr} (h:noSlice e=true):∀ l u st p,e≠.Slice l u st p:=by rintro l u st p rfl;cases h
noncomputable def idx (i:Int) (len:Nat):Option Nat:=match i with
|.ofNat k=>bif Nat.blt k len then some k else none
|.negSucc k=>bif Nat.blt k len then some (len - 1 - k) else none
theorem idx_inv {i:Int} {len j:Nat} (h:idx i len=some j):(i=(j:Int)∨∃ k,i=.negSucc k∧k<len∧j=len - 1 - k)∧j<len:=by
 cases i with
|ofNat k=>
  obtain ⟨z,rfl⟩:=bif_some h
  exact ⟨.inl rfl,Nat.le_of_ble_eq_true z⟩
|negSucc k=>
  obtain ⟨z,rfl⟩:=bif_some h
  have z:k<len:=Nat.le_of_ble_eq_true z
  exact ⟨.inr ⟨k,rfl,z,rfl⟩,by omega⟩
noncomputable def subst (s:Str) (i j:Nat):Str:=⟨((s.cps.toList.drop i).take (j - i)).toArray⟩
section
variable {g:Cx} {T:Tabs} {D D':Nat→Prop} {C C' C₀ C₁:Cfg} {h h' h₀ h₁:Heap} {a a' a₀ a₁ a₂ a₃:Hp} {n m:Nat} {σ σ':St} {sc:Scope} {vs vs' vs₁:Vars} {A:Around} {env:Env} {b c:Bool} {v u x y z:AV} {e f t l r:Expr} {p:Pos} {xs ys:List AV}
theorem Ok.pushL (O:Ok g C h a) {o:AObj} {us:List Value} {k:Nat} (ho:itemsO o=some xs) (r:VReps C xs us) (hl:xs.length≤cap):
  ∃ C',Ok g C' (h.push (lstObj us k)) (a++[o])∧Ext All true C h C' (h.push (lstObj us k))∧VRep C' (.loc a.length .root) (.ref h.objs.size):=
 have V:=itemsO_view (n:=a.length) ho
 O.new1 (po:=.list xs) (none_of_size h) ⟨_,Heap.get?_push_size _ rfl⟩ (push_keeps h _) V.1 (fun p po'=>V.2 p po') (fun C' M e=>⟨us,k,e▸Heap.get?_push_size _ rfl,r.mono M,hl⟩)
theorem Run.newList (O:Ok g σ.C σ.h a) {o:AObj} {us:List Value} (ho:itemsO o=some xs) (r:VReps σ.C xs us) (hl:xs.length≤cap):Run g A σ (newList us) (fun C u=>VRep C (.loc a.length .root) u) (a++[o]):=by
 intro Q E h
 obtain ⟨C',z1,z2,z3⟩:=O.pushL (k:=0) ho r hl
 refine wpAny_newObj_type (h _ (σ.at C' _ σ.s.toks) (Nx.at z2) z1 z3) ?_
 show us.toArray.size≤sizeLine
 rw [List.size_toArray,r.length];exact cap_size hl
theorem Ok.pushT (O:Ok g C h a) {us:List Value} {k:Nat} (r:VReps C xs us) (hl:xs.length≤cap):
  ∃ C',Ok g C' (h.push (tupObj us k)) a∧Ext All true C h C' (h.push (tupObj us k))∧VRep C' (.tup xs) (.ref h.objs.size):=by
 obtain ⟨C',z1,z2,z3⟩:=O.freeze (none_of_size h) (Heap.get?_push_size (o:=tupObj us k) h rfl) (push_keeps h _)
 exact ⟨C',z1,z2,.tup z3 (r.mono z2.more) hl⟩
theorem Run.newTuple (O:Ok g σ.C σ.h a) {us:List Value} (r:VReps σ.C xs us) (hl:xs.length≤cap):Run g A σ (newTuple us) (fun C u=>VRep C (.tup xs) u) a:=by
 intro Q E h
 obtain ⟨C',z1,z2,z3⟩:=O.pushT (k:=0) r hl
 refine wpAny_newObj_type (h _ (σ.at C' _ σ.s.toks) (Nx.at z2) z1 z3) ?_
 show us.toArray.size≤sizeLine
 rw [List.size_toArray,r.length];exact cap_size hl
theorem EvR.list {es:List Expr} {o:AObj} (H:EsR g n sc vs es a xs a₁) (ho:itemsO o=some xs) (hl:xs.length≤cap):EvR g n sc vs (.List es p) a (.loc a₁.length .root) (a₁++[o]):=fun A env σ hR hE O V Q E h=>
 List_ (H.2 A env σ p hR hE O V _ E fun us σ₁ x₁ O₁ r₁=>Run.newList O₁ ho r₁ hl _ _ fun u σ₂ x₂=>h u σ₂ (x₁.trans x₂))
theorem EvR.tuple {es:List Expr} {k:Nat} (H:EsR g n sc vs es a xs a') (hl:xs.length≤cap):EvR g n sc vs (.Tuple es k p) a (.tup xs) a':=fun A env σ hR hE O V Q E h=>
 Tuple_ (H.2 A env σ p hR hE O V _ E fun us σ₁ x₁ O₁ r₁=>Run.newTuple O₁ r₁ hl _ _ fun u σ₂ x₂=>h u σ₂ (x₁.trans x₂))
theorem neg_ge {m n:Nat} (hm:m<n):-(n:Int)≤Int.negSucc m:=Int.neg_le_neg (Int.ofNat_le.mpr hm)
theorem neg_fit {m n:Nat} (hm:m<n) (hn:n≤cap):-(2 ^ 63)≤Int.negSucc m:=
 Int.le_trans (show -(2 ^ 63)≤-(cap:Int) by unfold cap;decide +kernel) (neg_ge (Nat.lt_of_lt_of_le hm hn))
theorem pos_fit {m n:Nat} (hm:m<n) (hn:n≤cap):(m:Int)<2 ^ 63:=
 Int.lt_of_lt_of_le (Int.ofNat_lt.mpr (Nat.lt_of_lt_of_le hm hn)) (show (cap:Int)≤2 ^ 63 by unfold cap;decide +kernel)
theorem neg_at {m n:Nat}:(Int.negSucc m+(n:Int)).toNat=n - 1 - m:=by
 show (Int.subNatNat n (m+1)).toNat=_
 rw [Int.subNatNat_eq_coe,Int.toNat_sub,Nat.sub_right_comm];rfl
theorem list_item {w:Heap} {M:Cx} {s:Shared} {l:Addr} {us:List Value} {k j:Nat} {i:Int} {t:Tok} {u:Value} {Q:Value→Shared→Prop} {E:Value→Shared→Prop} (hl:s.heap.get? l=some (lstObj us k)) (hz:us.length≤cap) (hi:idx i us.length=some j) (hu:us[j]?=some u) (h:Q u s):
  wpAny M.M A (getItem (.ref l) (.int i t)) Q E s:=by
 have L:s.heap.IsList l us.toArray:=⟨_,hl,rfl,_,rfl⟩
 obtain ⟨z,hj⟩:=idx_inv hi
 rcases z with rfl|⟨m,rfl,hm,rfl⟩
 ·exact wpAny_getItem_list L (Int.natCast_nonneg _) (pos_fit hj hz) (by rw [Int.toNat_natCast];exact (List.getElem?_toArray ..).trans hu) h
 ·exact wpAny_getItem_list_neg L (Int.negSucc_lt_zero m) (neg_ge hm) (neg_fit hm hz) (by rw [List.size_toArray,neg_at];exact (List.getElem?_toArray ..).trans hu) h
def ItemR (g:Cx) (a:Hp) (x i v:AV):Prop:=∀ A σ value slice u w,noSlice slice=true→Ok g σ.C σ.h a→VRep σ.C x u→VRep σ.C i w→Run g A σ (subscriptTail value slice u w) (fun C q=>VRep C v q) a
theorem ItemR.list {i:Int} {j:Nat} (e:listOf a x=some xs) (hi:idx i xs.length=some j) (hv:xs[j]?=some v):ItemR g a x (.int i) v:=by
 intro A σ value slice u w hs O r r' Q E h
 obtain ⟨l,us,k,rfl,z1,z2,z3⟩:=O.listOf e r
 obtain ⟨t,rfl⟩:=r'.inv_int
 obtain ⟨u,e3,e4⟩:=z2.get hv
 exact tail_any (T:="list") ⟨_,z1,rfl⟩ slot_list_getitem.lookup (list_item (w:=σ.h) z1 (by rw [z2.length];exact z3) (by rw [z2.length];exact hi) e3 (h u σ .refl O e4)) (sub_plain (noSlice_ne hs))
theorem ItemR.dss {s q:Str} {es:SS} (e:viewAt a n .root=some (.dictS es)) (hq:look s es=some q):ItemR g a (.loc n .root) (.str s) (.str q):=by
 intro A σ value slice u w hs O r r' Q E h
 obtain ⟨rfl,_⟩:=r.inv_loc
 obtain ⟨t,rfl,_⟩:=r'.inv_str
 obtain ⟨_,_,kvs,z1,z2,z3⟩:=O.part e
 obtain ⟨t,e2,e3⟩:=(z2.at_ s).1 q hq
 exact tail_any (T:="dict") z1.typeIs slot_dict_getitem.lookup (wpAny_getItem_of (strKind_is _ _ _ _) z1.mapOf e2 (h _ (σ.tok _) Nx.tok O (.str _ _ e3))) (sub_plain (noSlice_ne hs))
theorem ItemR.dictI {i:Int} {es:List (Int×AV)} (e:viewAt a n .root=some (.dictI es)) (hq:lookI i es=some v):ItemR g a (.loc n .root) (.int i) v:=by
 intro A σ value slice u w hs O r r' Q E h
 obtain ⟨rfl,_⟩:=r.inv_loc
 obtain ⟨t,rfl⟩:=r'.inv_int
 obtain ⟨_,_,kvs,z1,z2,z3⟩:=O.part e
 obtain ⟨q,e2,e3⟩:=(z2.at_ i).1 v hq
 exact tail_any (T:="dict") z1.typeIs slot_dict_getitem.lookup (wpAny_getItem_of (intKind_is _ _ _ _) z1.mapOf e2 (h _ (σ.tok _) Nx.tok O e3)) (sub_plain (noSlice_ne hs))
theorem ItemR.tup {j:Nat} (hv:xs[j]?=some v):ItemR g a (.tup xs) (.nat j) v:=by
 intro A σ value slice u w hs O r r' Q E h
 obtain ⟨b,us,kk,rfl,hf,rs,hz⟩:=r.inv_tup
 obtain ⟨t,rfl⟩:=r'.inv_int
 obtain ⟨u,e3,e4⟩:=rs.get hv
 have hlt:=(List.getElem?_eq_some_iff.mp e3).1
 rw [← rs.length] at hz;unfold cap at hz
 refine tail_any (T:="tuple") ⟨_,O.fzh _ _ hf,rfl⟩ slot_tuple_getitem.lookup (getItem_tuple (j:=j) ⟨_,O.fzh _ _ hf,rfl,_,rfl⟩ (by show (-(2^63):Int)≤(j:Int);omega) (by show (j:Int)<2^63;omega) ?_ (by simpa using e3) (h u σ .refl O e4)) (sub_plain (noSlice_ne hs))
 rw [List.size_toArray]
 exact seqIndex_of (Int.natCast_nonneg _) (by show (j:Int)<_;omega)
theorem ItemR.str {s:Str} {j d:Nat} (hv:s.cps.toList[j]?=some d):ItemR g a (.str s) (.nat j) (.str ⟨#[d]⟩):=by
 intro A σ value slice u w hs O r r' Q E h
 obtain ⟨t,rfl,hx⟩:=r.inv_str
 obtain ⟨t',rfl⟩:=r'.inv_int
 have hlt:=(List.getElem?_eq_some_iff.mp hv).1
 have hl:=okS_16 hx
 have hl2:s.length=s.cps.toList.length:=by simp [Str.length]
 have hj:(j:Int)<2 ^ 63:=by omega
 refine tail_any (T:="str") (typeIs_str _ _ _) F.slot_str_getitem.lookup (P.getItem_str (c:=d) ?_ ?_ (h _ (σ.tok _) Nx.tok O (.str _ _ ?_))) (sub_plain (noSlice_ne hs))
 ·show (decide ((j:Int) < -(2 ^ 63:Int))||decide ((j:Int) ≥ 2 ^ 63))=false
  rw [decide_eq_false (by omega),decide_eq_false (by omega)];rfl
 ·show (seqIndex? (j:Int) s.length).bind _=_
  rw [seqIndex_of (Int.natCast_nonneg _) (by omega)]
  simpa using hv
 ·unfold okS at hx ⊢
  rw [Bool.and_eq_true] at hx ⊢
  refine ⟨?_,rfl⟩
  have:=List.all_eq_true.mp hx.1 d (List.mem_of_getElem? hv)
  simpa using this
theorem EvR.item (hs:noSlice r=true) (H:EvR g n sc vs l a x a₁) (K:EvR g n sc vs r a₁ y a') (B:ItemR g a' x y v):EvR g n sc vs (.Subscript l r p) a v a':=fun A env σ hR hE O V Q E h=>
 Subscript_ (H A env σ hR hE O V _ E fun u σ₁ x₁ O₁ r₁=>K A env σ₁ hR hE O₁ (V.ext x₁) _ E fun w σ₂ x₂ O₂ r₂=>B A σ₂ _ _ u w hs O₂ (r₁.mono x₂.more) r₂ _ _ fun q σ₃ x₃=>h q σ₃ ((x₁.trans x₂).trans x₃))
theorem isOne:(Expr.Constant (.int 1) n p)=.Constant (.int (.ofNat 1)) n p:=rfl
theorem VReps.rev {us:List Value} (r:VReps C xs us):VReps C xs.reverse us.reverse:=
 r.ind (P:=fun xs us=>VReps C xs.reverse us.reverse) .nil fun _ _ _ _ h _ q=>by rw [List.reverse_cons,List.reverse_cons];exact q.append (.cons h .nil)
theorem VReps.take {us:List Value} (r:VReps C xs us):∀ k,VReps C (xs.take k) (us.take k):=
 r.ind (P:=fun xs us=>∀ k,VReps C (xs.take k) (us.take k)) (fun k=>by rw [List.take_nil,List.take_nil];exact .nil) fun _ _ _ _ h _ q k=>by
  cases k with
 |zero=>exact .nil
 |succ k=>exact .cons h (q k)
theorem VReps.drop1 {us:List Value} (r:VReps C xs us):VReps C (xs.drop 1) (us.drop 1):=by
 cases r with
|nil=>exact .nil
|cons _ r=>exact r
theorem slice_new (O:Ok g σ.C σ.h a) {w:Value} (e:listOf a x=some xs) (rx:VRep σ.C x w) {o:AObj} (ho:itemsO o=some ys) {vl vu vst:Value} {lo hi st:Option Int} (pl:IsPart vl lo) (pu:IsPart vu hi) (ps:IsPart vst st) (h0:st≠some 0)
  (hp:∀ us,VReps σ.C xs us→∃ zs:List Value,slicePick us.toArray lo hi st=zs.toArray∧VReps σ.C ys zs) {value slice:Expr} (hs:∀ i,∃ ops,subscripted slice false w i=operate ops (getItem w i)) {Q:Value→Shared→Prop} {E:Value→Shared→Prop}
  (h:∀ u σ',Nx All true σ σ'→Ok g σ'.C σ'.h (a++[o])→VRep σ'.C (.loc a.length .root) u→Q u σ'.s):
  wpAny g.M A (subscriptTail value slice w (.ref σ.h.objs.size)) Q E { σ.s with heap:=σ.h.push { cls:=.type "slice",data:=.fields #[vl,vu,vst] } }:=by
 obtain ⟨l,us,k,rfl,z1,z2,z3⟩:=O.listOf e rx
 obtain ⟨zs,e1,e2⟩:=hp us z2
 have K:=push_keeps σ.h { cls:=.type "slice",data:=.fields #[vl,vu,vst] }
 have z1':=K _ _ z1
 obtain ⟨ops,hs⟩:=hs (.ref σ.h.objs.size)
 refine tail_any (T:="list") ⟨_,z1',rfl⟩ slot_list_getitem.lookup (wpAny_getItem_list_slice ⟨_,z1',rfl,_,rfl⟩ (Heap.IsSliceOf.new ..) pl pu ps h0 ?_ ?_) hs
 ·rw [e1]
  have hl:ys.length≤cap:=by
   rw [← e2.length]
   have:=slicePick_size_le us.toArray lo hi st
   rw [e1,List.size_toArray,List.size_toArray,z2.length] at this
   exact Nat.le_trans this z3
  obtain ⟨C',q1,q2,q3⟩:=(O.grow K).pushL (k:=0) ho e2 hl
  exact h _ (σ.at C' _ σ.s.toks) (Nx.at ((Ext.grow K).trans q2)) q1 q3
 ·rw [List.size_toArray,z2.length];exact cap_size z3
theorem EvR.rev {k:Nat} {q p2 p3:Pos} {o:AObj} (H:EvR g n sc vs l a x a') (e:listOf a' x=some xs) (ho:itemsO o=some xs.reverse):EvR g n sc vs (.Subscript l (.Slice Option.none Option.none (some (.UnaryOp .USub (.Constant (.int 1) k p3) p2)) q) p) a (.loc a'.length .root) (a'++[o]):=fun A env σ hR hE O V Q E h=>
 Subscript_ (H A env σ hR hE O V _ E fun u σ₁ x₁ O₁ r₁=>wpAny_Slice (wpAny_evalPart_none (wpAny_evalPart_none (wpAny_evalPart_some (UnaryOp_ (wpAny_Constant_int (P.neg_int
  (slice_new (σ:=σ₁.tok (σ₁.s.toks+1+1)) (slice:=.Slice Option.none Option.none (some (.UnaryOp .USub (.Constant (.int 1) k p3) p2)) q) O₁ e r₁ ho .none .none (.int _ _) (by decide) (fun us ru=>⟨_,W.krv_pick _,by simpa using ru.rev⟩) (fun i=>⟨_,rfl⟩) fun u σ₂ x₂=>h u σ₂ ((x₁.trans Nx.tok).trans x₂)))))))))
theorem EvR.upTo {q:Pos} {k:Nat} {o:AObj} (H:EvR g n sc vs l a x a₁) (K:EvR g n sc vs r a₁ (.nat k) a') (e:listOf a' x=some xs) (ho:itemsO o=some (xs.take k)):EvR g n sc vs (.Subscript l (.Slice Option.none (some r) Option.none q) p) a (.loc a'.length .root) (a'++[o]):=fun A env σ hR hE O V Q E h=>
 Subscript_ (H A env σ hR hE O V _ E fun u σ₁ x₁ O₁ r₁=>wpAny_Slice (wpAny_evalPart_none (wpAny_evalPart_some (K A env σ₁ hR hE O₁ (V.ext x₁) _ E fun w σ₂ x₂ O₂ r₂=>wpAny_evalPart_none (by
  obtain ⟨t,rfl⟩:=r₂.inv_int
  exact slice_new (σ:=σ₂) (slice:=.Slice Option.none (some r) Option.none q) O₂ e (r₁.mono x₂.more) ho .none (.int _ _) .none (by decide) (fun us ru=>⟨_,slicePick_upto' _ k,by simpa using ru.take k⟩) (fun i=>⟨_,rfl⟩) fun u σ₃ x₃=>h u σ₃ ((x₁.trans x₂).trans x₃))))))
end
theorem isStr_key (name k:Str) (t:Tok):(Value.str k t).isStr name=strB name k:=by
 rw [strB_eq]
 unfold Value.isStr
 by_cases h:name=k
 ·subst h;simp
 ·have:¬ k=name:=fun e=>h e.symm
  simp [h,this]
theorem NPairs.find {C:Cfg} (name:Str) {fs:List (Str×AV)} {es:List DictEntry} (h:NPairs C fs es):(∀ v,look name fs=some v→∃ u,getL name es=some (some u)∧VRep C v u)∧(look name fs=none→getL name es=some none)∧es.any (·.refKey)=false:=by
 induction h with
|nil=>exact ⟨fun v e=>(nomatch e),fun _=>rfl,rfl⟩
|cons hv r ih=>
  rename_i k x hh t u xs es
  obtain ⟨z1,z2,z3⟩:=ih
  have ra:(⟨hh,.str k t,u⟩::es:List DictEntry).any (·.refKey)=false:=z3
  unfold getL at z1 z2 ⊢
  rw [z3] at z1 z2
  rw [List.find?_cons,ra,look]
  simp only [isStr_key]
  cases strB name k with
 |true=>exact ⟨fun v e=>⟨u,rfl,Option.some.inj e▸hv⟩,fun e=>(nomatch e),trivial⟩
 |false=>exact ⟨z1,z2,trivial⟩
theorem NPairs.got {C:Cfg} {name:Str} {fs:List (Str×AV)} {es:List DictEntry} (h:NPairs C fs es):(getL name es).isSome=true:=by
 obtain ⟨z1,z2,_⟩:=h.find name
 cases q:look name fs with
|none=>rw [z2 q];rfl
|some v=>obtain ⟨u,z,_⟩:=z1 v q;rw [z];rfl
theorem NPairs.put {C:Cfg} {name:Str} {v:AV} {u:Value} (hsh:Int) (tk:Tok) (hv:VRep C v u) {fs:List (Str×AV)} {es:List DictEntry} (h:NPairs C fs es):NPairs C (setL name v fs) (putL name hsh (.str name tk) u es):=by
 induction h with
|nil=>exact .cons hv .nil
|cons h r ih=>
  unfold setL putL
  simp only [isStr_key]
  cases strB name _ with
 |true=>exact .cons hv r
 |false=>exact .cons h ih
theorem NPairs.length {C:Cfg} {fs:List (Str×AV)} {es:List DictEntry} (h:NPairs C fs es):es.length=fs.length:=by
 induction h with
|nil=>rfl
|cons _ _ ih=>exact congrArg (·+1) ih
theorem putL_length (name:Str) (hsh:Int) (key v:Value) (es:List DictEntry):(putL name hsh key v es).length≤es.length+1:=by
 induction es with
|nil=>exact Nat.le_refl _
|cons e r ih=>
  unfold putL
  split
  ·exact Nat.le_succ _
  ·exact Nat.succ_le_succ ih
noncomputable def handB:AV→Bool
|.val (.builtin _)=>false
|_=>true
theorem handed_of {C:Cfg} {v:AV} {u:Value} (e:handB v=true) (r:VRep C v u):handedIn u=true:=by
 cases r with
|val=>cases u<;>first|rfl|cases e
|_=>rfl
section
variable {g:Cx} {T:Tabs} {D D':Nat→Prop} {C C' C₀ C₁:Cfg} {h h' h₀ h₁:Heap} {a a' a₀ a₁ a₂ a₃:Hp} {n m:Nat} {σ σ':St} {sc:Scope} {vs vs' vs₁:Vars} {A:Around} {env:Env} {b c:Bool} {v u x y z:AV} {e f t l r:Expr} {p d:Part} {pos:Pos} {xs ys:List AV} {k:Addr} {fs:List (Str×AV)} {name:Str}
structure Inst (a:Hp) (m:Nat) (p:Part) (c:Addr) (d:Part) (fs:List (Str×AV)):Prop where
 o:viewAt a m p=some (.inst c d)
 f:viewAt a m d=some (.nsd fs)
theorem Ok.inst (O:Ok g C h a) (I:Inst a m p k d fs):∃ es j,h.get? (C.rho m d)=some (dictOf es j)∧NPairs C fs es∧InstAt h (C.rho m p) (insObj k (C.rho m d)) k (some (dictOf es j)):=by
 obtain ⟨_,_,z1,z2⟩:=O.part I.o
 obtain ⟨_,_,es,j,y1,y2⟩:=O.part I.f
 exact ⟨es,j,y1,y2,⟨z1,rfl,rfl,y1⟩⟩
def GetR (g:Cx) (a:Hp) (x:AV) (name:Str) (v:AV):Prop:=∀ A σ u ex,Ok g σ.C σ.h a→VRep σ.C x u→Run g A σ (getAttr u name ex) (fun C q=>VRep C v q) a
theorem GetR.inst (G:Gl g T) (I:Inst a m p k d fs) (ef:T.field k name=true) (el:look name fs=some v) (hh:handB v=true):GetR g a (.loc m p) name v:=by
 intro A σ u ex O r Q E h
 obtain ⟨rfl,_⟩:=r.inv_loc
 obtain ⟨es,j,_,z3,I⟩:=O.inst I
 obtain ⟨u,l1,l2⟩:=(z3.find name).1 v el
 have CK:=G.cls k (.inr (.inl ⟨name,ef⟩))
 obtain ⟨⟨at_,f1,f2⟩,_⟩:=CK.field name ef
 exact get_value (G.X.keeps O.stays) I (plainGet_of (name:=name) CK.get).1 (findObj_own CK.dict f1 f2 l1) (handed_of hh l2) (h u (σ.tok _) Nx.tok O l2)
theorem EvR.attr (hb:∀ env t,attributeBase l name env t=t) (H:EvR g n sc vs l a x a') (B:GetR g a' x name v):EvR g n sc vs (.Attribute l name pos) a v a':=by
 intro A env σ hR hE O V Q E h
 rw [arm_eval_Attribute,hb]
 refine wpAny_bind (H A env σ hR hE O V _ E fun u σ₁ x₁ O₁ r₁=>?_)
 refine wpAny_bind (wpAny_standAt (wpAny_bind (wpAny_holding (B A σ₁ u _ O₁ r₁ _ _ fun w σ₂ x₂ O₂ r₂=>?_))))
 exact wpAny_bind (wpAny_letTemporaryGo (wpAny_pure (h w σ₂ (x₁.trans x₂) O₂ r₂)))
theorem set_attr {s:Shared} (X:g.K.In s.heap) {x dx c:Addr} {es:List DictEntry} {k:Nat} {v:Value} (I:InstAt s.heap x (insObj c dx) c (some (dictOf es k))) (hd:s.heap.get? dx=some (dictOf es k))
  (hs:findIn g.K (.ref c) "__setattr__"=some (some (.builtin "object.__setattr__"))) (hp:plainOver g.K c=true) (ht:takerIn g.K c name=some none) (hh:hasDictIn g.K c=true) (hl:(getL name es).isSome=true) (hz:es.length≤900)
  {Q:Unit→Shared→Prop} {E:Value→Shared→Prop} (h:∀ hsh tk k' h',(∀ y o,y≠dx→s.heap.get? y=some o→h'.get? y=some o)→h'.get? dx=some (dictOf (putL name hsh (.str name tk) v es) k')→Q () { s with heap:=h',toks:=s.toks+2 }):
  wpAny g.M A (setAttr (.ref x) name v) Q E s:=by
 have hd':=hd
 refine set_plain X I hs ?_
 refine osa_open (s:={ s with toks:=s.toks+1 }) X I hp ht fun b=>?_
 obtain ⟨cd,hc,hD⟩:=any_some hh
 have hx:=I.at_
 refine wpAny_bind (wpAny_pure (wpAny_bind (wpAny_bind (wpAny_loadPart hx (wpAny_bind ((looks_clsIn X hc).at ?_))))))
 rw [hD]
 refine wpAny_pure (a:=some dx) (wpAny_bind (wpAny_pure (wpAny_bind ?_)))
 unfold nsSet
 refine wpAny_bind (wpAny_bind (wpAny_askSetting (wpAny_pure (wpAny_bind (wpAny_mkText (wpAny_bind (wpAny_loadPart hd ?_)))))))
 have c:(!es.toArray.any (·.key.isStr name)&&es.toArray.any (·.refKey))=false:=by
  rw [← Array.any_toList,← Array.any_toList]
  unfold getL at hl
  split at hl
  ·rename_i en he
   rw [List.any_eq_true.mpr ⟨en,by simpa using List.mem_of_find?_eq_some he,by simpa using List.find?_some he⟩];rfl
  ·split at hl
   ·cases hl
   ·rename_i z
    rw [Bool.not_eq_true] at z
    show (_&&es.any (·.refKey))=false
    rw [z,Bool.and_false]
 dsimp only
 rw [aRefKeyMayBeTheName_at,c]
 have D':∀ hsh tk,(s.heap.update dx (Obj.putName name hsh (.str name tk) v)).get? dx=some (dictOf (putL name hsh (.str name tk) v es) (putN name es k)):=fun hsh tk=>by
  rw [← putName_dict]
  exact Heap.get?_update_self _ hd' (by rw [putName_dict];rfl)
 refine wpAny_updatePart hd' ?_
 refine wpAny_bind (wpAny_lookBehind (D' _ _) (by
  refine pastItsLine_dict ?_
  rw [List.size_toArray,sizeLine_eq]
  exact Nat.le_trans (putL_length ..) (by omega)) ?_)
 exact wpAny_pure (h _ _ _ _ (fun y o hy e=>(Heap.get?_update_ne _ _ _ _ hy).trans e) (D' _ _))
def PutR (g:Cx) (a:Hp) (m:Nat) (p:Part) (name:Str) (v:AV) (a':Hp):Prop:=∀ A σ w,Ok g σ.C σ.h a→VRep σ.C v w→Run g A σ (setAttr (.ref (σ.C.rho m p)) name w) (fun _ _=>True) a'
theorem PutR.gen {o o':AObj} {fs':List (Str×AV)} (G:Gl g T) (ho:a[m]?=some o) (I:Inst a m p k d fs) (ef:T.field k name=true) (hl:Nat.ble fs.length 500=true) (hs:setL name v fs=fs') (hd:∀ q po,view m o q=some po→∃ po',view m o' q=some po')
  (hv:∀ q po,view m o' q=some po→(q=d∧po=.nsd fs')∨(q≠d∧view m o q=some po)):PutR g a m p name v (a.set m o'):=by
 intro A σ w O r Q E h
 obtain ⟨es,j,z2,z3,J⟩:=O.inst I
 have CK:=G.cls k (.inr (.inl ⟨name,ef⟩))
 refine set_attr (G.X.keeps O.stays) J z2 CK.sets CK.over (CK.field name ef).2 CK.dict z3.got (by rw [z3.length];exact Nat.le_trans (Nat.le_of_ble_eq_true hl) (by decide)) fun hsh tk k' h' q1 q2=>?_
 obtain ⟨o₁,e1,e2⟩:=Option.bind_eq_some_iff.mp I.f
 obtain rfl:=Option.some.inj (ho.symm.trans e1)
 obtain ⟨y1,y2⟩:=O.upd (ao':=o') ho e2 q1 ⟨_,q2⟩ hd fun q po e=>(hv q po e).imp (fun z=>⟨z.1,by rw [z.2,← hs];exact ⟨_,_,q2,z3.put hsh tk r⟩⟩) id
 exact h () (σ.at σ.C h' _) (Nx.at y2) y1 trivial
theorem inst_at (ho:a[m]?=some (.inst k fs)):Inst a m .root k .rootd fs:=⟨Option.bind_eq_some_iff.mpr ⟨_,ho,rfl⟩,Option.bind_eq_some_iff.mpr ⟨_,ho,rfl⟩⟩
theorem row_at {t:List Row} {i:Nat} {r:Row} (ho:a[m]?=some (.tree t)) (hr:t[i]?=some r):Inst a m (.row i) C_Row (.rowd i) (rowFs m i r):=⟨Option.bind_eq_some_iff.mpr ⟨_,ho,view_row hr⟩,Option.bind_eq_some_iff.mpr ⟨_,ho,view_row hr⟩⟩
theorem tree_at {t:List Row} (ho:a[m]?=some (.tree t)):Inst a m .root C_Tree .rootd [(Str.ofString "rows",.loc m .rows)]:=⟨Option.bind_eq_some_iff.mpr ⟨_,ho,rfl⟩,Option.bind_eq_some_iff.mpr ⟨_,ho,rfl⟩⟩
theorem PutR.inst (G:Gl g T) (ho:a[m]?=some (.inst k fs)) (ef:T.field k name=true) (hl:Nat.ble fs.length 500=true):PutR g a m .root name v (a.set m (.inst k (setL name v fs))):=
 .gen G ho (inst_at ho) ef hl rfl (fun q po e=>by cases q<;>first|exact ⟨_,rfl⟩|cases e) fun q po e=>by cases q<;>first|exact .inr ⟨(fun z=>nomatch z),e⟩|exact .inl ⟨rfl,(Option.some.inj e).symm⟩|cases e
noncomputable def setRow (name:Str) (v:Str) (r:Row):Row:=bif strB name (Str.ofString "name") then { r with name:=v } else { r with value:=v }
theorem PutR.row {t:List Row} {i:Nat} {r:Row} {s:Str} (G:Gl g T) (ef:T.field C_Row name=true) (ho:a[m]?=some (.tree t)) (hr:t[i]?=some r) (hs:setL name (.str s) (rowFs m i r)=rowFs m i (setRow name s r)):PutR g a m (.row i) name (.str s) (a.set m (.tree (t.set i (setRow name s r)))):=by
 refine .gen G ho (row_at ho hr) ef rfl hs (fun q po e=>view_there e) fun q po e=>?_
 by_cases hq:q=.rowd i
 ·subst hq
  exact .inl ⟨rfl,(Option.some.inj ((view_row (set_self hr)).symm.trans e)).symm⟩
 ·refine .inr ⟨hq,view_set hr (fun k hk=>?_) hq e⟩
  have l1:(setRow name s r).ch=r.ch∧(setRow name s r).at_=r.at_∧(setRow name s r).ns=r.ns:=by unfold setRow;cases strB name _<;>exact ⟨rfl,rfl,rfl⟩
  cases k with
 |rowd=>exact absurd rfl hk
 |row=>rfl
 |ch=>exact congrArg (fun l=>PObj.list (intsAV l)) l1.1
 |att=>exact congrArg (fun l=>PObj.list (intsAV l)) l1.2.1
 |nss=>exact congrArg (fun l=>PObj.list (intsAV l)) l1.2.2
def MethR (g:Cx) (a:Hp) (x:AV) (name:Str) (f:Value):Prop:=∀ A σ u pl,Ok g σ.C σ.h a→VRep σ.C x u→Run g A σ (getMethod u name pl) (fun _ q=>q=(f,[u])) a
theorem MethR.inst {f:Addr} (G:Gl g T) (I:Inst a m p k d fs) (e3:T.meth k name=some f) (e4:look name fs=none):MethR g a (.loc m p) name (.ref f):=by
 intro A σ u pl O r Q E h
 obtain ⟨rfl,_⟩:=r.inv_loc
 obtain ⟨es,j,_,z3,I⟩:=O.inst I
 have N:=(z3.find name).2.1 e4
 have CK:=G.cls k (.inr (.inr ⟨name,f,e3⟩))
 obtain ⟨q1,q2⟩:=CK.meth name f e3
 exact method_fn (G.X.keeps O.stays) I (plainGet_of (name:=name) CK.get).1 (plainGet_of (name:=name) CK.get).2 q1 (beq_iff_eq.mp q2) (by show (lookIn name (dictOf es j)).map _=_;rw [lookIn_dict,N];rfl) (h _ σ .refl O rfl)
theorem MethR.append (e:listOf a (.loc m p)=some xs):MethR g a (.loc m p) (Str.ofString "append") (.builtin "list.append"):=by
 intro A σ u pl O r Q E h
 obtain ⟨l,us,k,rfl,z,_⟩:=O.listOf e r
 exact getMethod_builtin (T:="list") ⟨_,z,rfl⟩ PySem.F.plainAttrs_list PySem.F.slot_list_append PySem.F.type_list_append (fun a e=>by cases e;exact ⟨_,z,rfl⟩) (h _ σ .refl O rfl)
theorem MethR.get {es:SS} (e:viewAt a m .root=some (.dictS es)):MethR g a (.loc m .root) (Str.ofString "get") (.builtin "dict.get"):=by
 intro A σ u pl O r Q E h
 obtain ⟨rfl,_⟩:=r.inv_loc
 obtain ⟨_,_,kvs,z1,_⟩:=O.part e
 exact getMethod_builtin (T:="dict") z1.typeIs PySem.F.plainAttrs_dict PySem.F.slot_dict_get PySem.F.type_dict_get z1.mapOf.noDict (h _ σ .refl O rfl)
theorem MethR.pop {es:SS} (e:viewAt a m .root=some (.dictS es)):MethR g a (.loc m .root) (Str.ofString "pop") (.builtin "dict.pop"):=by
 intro A σ u pl O r Q E h
 obtain ⟨rfl,_⟩:=r.inv_loc
 obtain ⟨_,_,kvs,z1,_⟩:=O.part e
 exact getMethod_builtin (T:="dict") z1.typeIs PySem.F.plainAttrs_dict PySem.F.slot_dict_pop PySem.F.type_dict_pop z1.mapOf.noDict (h _ σ .refl O rfl)
theorem MethR.split {s:Str}:MethR g a (.str s) (Str.ofString "split") (.builtin "str.split"):=by
 intro A σ u pl O r Q E h
 obtain ⟨t,rfl,_⟩:=r.inv_str
 exact getMethod_builtin (T:="str") (typeIs_str _ _ _) PySem.F.plainAttrs_str PySem.F.slot_str_split PySem.F.type_str_split (fun _ e=>nomatch e) (h _ σ .refl O rfl)
theorem MethR.join {s:Str}:MethR g a (.str s) (Str.ofString "join") (.builtin "str.join"):=by
 intro A σ u pl O r Q E h
 obtain ⟨t,rfl,_⟩:=r.inv_str
 exact getMethod_builtin (T:="str") (typeIs_str _ _ _) PySem.F.plainAttrs_str PySem.F.slot_str_join PySem.F.type_str_join (fun _ e=>nomatch e) (h _ σ .refl O rfl)
end
theorem stored_eq {κ:Type} [DecidableEq κ] {k:κ} {x u:Value} {kvs:List (κ×Value)} (hn:k ∉ kvs.map (·.1)):stored ((k,x)::kvs) k u=(k,u)::kvs:=by
 unfold stored
 simp only [List.any_cons,decide_true,Bool.true_or,if_true,List.map_cons]
 congr 1
 conv=>rhs;rw [← List.map_id kvs]
 apply List.map_congr_left
 intro y hy
 rw [if_neg];rfl
 intro e;exact hn (e▸List.mem_map_of_mem hy)
theorem stored_ne {κ:Type} [DecidableEq κ] {k k':κ} {x u:Value} {kvs:List (κ×Value)} (hn:k'≠k):stored ((k',x)::kvs) k u=(k',x)::stored kvs k u:=by
 unfold stored
 simp only [List.any_cons,hn,decide_false,Bool.false_or,List.map_cons,if_false]
 split<;>rfl
section
variable {g:Cx} {T:Tabs} {D D':Nat→Prop} {C C' C₀ C₁:Cfg} {h h' h₀ h₁:Heap} {a a' a₀ a₁ a₂ a₃:Hp} {n m:Nat} {σ σ':St} {sc:Scope} {vs vs' vs₁:Vars} {A:Around} {env:Env} {b c:Bool} {v u x y z:AV} {e f t l r:Expr} {p d:Part} {pos:Pos} {xs ys:List AV} {o o':AObj}
theorem SPairs.length {es:SS} {kvs:List (Str×Value)} (h:SPairs es kvs):kvs.length=es.length:=by
 induction h with
|nil=>rfl
|cons _ _ _ ih=>exact congrArg (·+1) ih
theorem IPairs.length {es:List (Int×AV)} {kvs:List (Int×Value)} (h:IPairs C es kvs):kvs.length=es.length:=by
 induction h with
|nil=>rfl
|cons _ _ ih=>exact congrArg (·+1) ih
theorem SPairs.put {k q:Str} {t:Tok} (hk:okS k=true) (hq:okS q=true) {es:SS} {kvs:List (Str×Value)} (h:SPairs es kvs):(kvs.map (·.1)).Nodup→SPairs (setL k q es) (stored kvs k (.str q t)):=by
 induction h with
|nil=>exact fun _=>.cons hk hq .nil
|cons h1 h2 r ih=>
  rename_i k' s t' es kvs
  intro hn
  rw [List.map_cons,List.nodup_cons] at hn
  rw [setL,strB_eq]
  by_cases hkk:k=k'
  ·subst hkk
   rw [decide_eq_true rfl,stored_eq hn.1]
   exact .cons h1 hq r
  ·rw [decide_eq_false hkk,stored_ne (fun e=>hkk e.symm)]
   exact .cons h1 h2 (ih hn.2)
theorem IPairs.put {k:Int} {u:Value} (hv:VRep C v u) {es:List (Int×AV)} {kvs:List (Int×Value)} (h:IPairs C es kvs):(kvs.map (·.1)).Nodup→IPairs C (setI k v es) (stored kvs k u):=by
 induction h with
|nil=>exact fun _=>.cons hv .nil
|cons h2 r ih=>
  rename_i k' s w es kvs
  intro hn
  rw [List.map_cons,List.nodup_cons] at hn
  rw [setI]
  by_cases hkk:k=k'
  ·subst hkk
   rw [if_pos rfl,stored_eq hn.1]
   exact .cons hv r
  ·rw [if_neg hkk,stored_ne (fun e=>hkk e.symm)]
   exact .cons h2 (ih hn.2)
theorem SPairs.del {k:Str} {es:SS} {kvs:List (Str×Value)} (h:SPairs es kvs):(kvs.map (·.1)).Nodup→SPairs (delL k es) (without kvs k):=by
 induction h with
|nil=>exact fun _=>.nil
|cons h1 h2 r ih=>
  rename_i k' s t' es kvs
  intro hn
  rw [List.map_cons,List.nodup_cons] at hn
  rw [delL,strB_eq]
  by_cases hkk:k=k'
  ·subst hkk
   have:without ((k,Value.str s t')::kvs) k=kvs:=by
    rw [without,List.filter_cons,if_neg (by simp)]
    exact without_of_not_mem _ _ hn.1
   rw [decide_eq_true rfl,this]
   exact r
  ·have:without ((k',Value.str s t')::kvs) k=(k',Value.str s t')::without kvs k:=by
    rw [without,List.filter_cons,if_pos (by simpa using fun e=>hkk e.symm)];rfl
   rw [decide_eq_false hkk,this]
   exact .cons h1 h2 (ih hn.2)
theorem dict_nodup {κ:Type} [DecidableEq κ] {knd:KeyKind g.prog g.w κ} {d:Addr} {kvs:List (κ×Value)} (hd:h.DictOf knd d kvs):(kvs.map (·.1)).Nodup:=by
 obtain ⟨o,es,ep,ho,hc,hdat,hk,hp,hn⟩:=hd
 exact hn
theorem dict_there {κ:Type} [DecidableEq κ] {knd:KeyKind g.prog g.w κ} {d:Addr} {kvs:List (κ×Value)} (hd:h.DictOf knd d kvs):∃ o,h.get? d=some o:=by
 obtain ⟨o,ho,_⟩:=Heap.dictOf_iff.mp hd
 exact ⟨o,ho⟩
def CallR (g:Cx) (f:Value) (args:List AV) (a:Hp) (v:AV) (a':Hp):Prop:=∀ n A σ us,Room n A→Ok g σ.C σ.h a→VReps σ.C args us→Run g A σ (call f us) (fun C q=>VRep C v q) a'
theorem append_new {s:Shared} {l:Addr} {us:List Value} {k:Nat} {u:Value} {Q:Value→Shared→Prop} {E:Value→Shared→Prop} (hl:s.heap.get? l=some (lstObj us k)) (hz:us.length≤cap)
  (h:∀ h',(∀ y o,y≠l→s.heap.get? y=some o→h'.get? y=some o)→h'.get? l=some (lstObj (us++[u]) (k+1))→Q .none { s with heap:=h' }):
  wpAny g.M A (call (.builtin "list.append") [.ref l,u]) Q E s:=by
 refine append_at hl (fun h' hs e=>h h' (fun y o hy e=>by rw [hs.2 y hy];exact e) ?_) (by rw [List.size_toArray];exact cap_size hz)
 rw [e]
 congr 3
 simp
theorem CallR.appG (hn:a[m]?=some o) (hv:view m o p=some (.list xs)) (hz:xs.length+1≤cap) (hd:∀ q po,view m o q=some po→∃ po',view m o' q=some po') (hv':∀ q po,view m o' q=some po→(q=p∧po=.list (xs++[v]))∨(q≠p∧view m o q=some po)):
  CallR g (.builtin "list.append") [.loc m p,v] a .none (a.set m o'):=by
 intro n A σ us _ O rs Q E h
 obtain ⟨u1,u2,rfl,r1,r2⟩:=rs.two
 obtain ⟨rfl,_⟩:=r1.inv_loc
 obtain ⟨y0,y1,us,k,y2,y3,y4⟩:=O.at_ m o p _ hn hv
 refine append_new y2 (by rw [y3.length];exact y4) fun h' z1 z2=>?_
 obtain ⟨O',X'⟩:=O.upd (ao':=o') hn hv z1 ⟨_,z2⟩ hd fun q po e=>by
  rcases hv' q po e with ⟨z,rfl⟩|z
  ·exact .inl ⟨z,us++[u2],_,z2,y3.append (.cons r2 .nil),by rw [List.length_append];exact hz⟩
  ·exact .inr z
 exact h _ (σ.at σ.C h' _) (Nx.at X') O' (.val _)
theorem CallR.app (hn:a[m]?=some o) (ho:itemsO o=some xs) (ho':itemsO o'=some (xs++[v])) (hz:Nat.blt xs.length cap=true):CallR g (.builtin "list.append") [.loc m .root,v] a .none (a.set m o'):=
 have V:=itemsO_view (n:=m) ho
 have V':=itemsO_view (n:=m) ho'
 .appG hn V.1 (Nat.le_of_ble_eq_true hz) (fun q po e=>V.2 q po e▸⟨_,V'.1⟩) fun q po e=>.inl (by
  obtain rfl:=V'.2 q po e
  exact ⟨rfl,(Option.some.inj (V'.1.symm.trans e)).symm⟩)
noncomputable def rowL:RK→Row→Option (List Nat)
|.ch,r=>some r.ch
|.att,r=>some r.at_
|.nss,r=>some r.ns
|_,_=>none
noncomputable def rowP (j:Nat):RK→Row→Row
|.ch,r=>{ r with ch:=r.ch++[j] }
|.att,r=>{ r with at_:=r.at_++[j] }
|.nss,r=>{ r with ns:=r.ns++[j] }
|_,r=>r
theorem CallR.appRow {t:List Row} {i j:Nat} {r:Row} {k:RK} {l:List Nat} (hn:a[m]?=some (.tree t)) (hr:t[i]?=some r) (hl:rowL k r=some l) (hz:Nat.blt l.length cap=true):CallR g (.builtin "list.append") [.loc m (.of i k),.nat j] a .none (a.set m (.tree (t.set i (rowP j k r)))):=by
 have hv:rview m i k r=.list (intsAV l)∧rview m i k (rowP j k r)=.list (intsAV l++[.nat j])∧∀ k',k'≠k→rview m i k' (rowP j k r)=rview m i k' r:=by
  cases k<;>first|(cases hl;done)|(obtain rfl:=Option.some.inj hl;exact ⟨rfl,congrArg PObj.list (intsAV_push ..),fun k' hk=>by cases k'<;>first|rfl|exact absurd rfl hk⟩)
 refine .appG (xs:=intsAV l) hn ((view_row hr).trans (congrArg some hv.1)) (by rw [intsAV_length];exact Nat.le_of_ble_eq_true hz) (fun q po e=>view_there e) fun q po e=>?_
 by_cases hq:q=.of i k
 ·subst hq
  refine .inl ⟨rfl,?_⟩
  rw [← hv.2.1]
  exact (Option.some.inj ((view_row (set_self hr)).symm.trans e)).symm
 ·exact .inr ⟨hq,view_set hr (fun k' hk=>hv.2.2 k' fun z=>hk (z▸rfl)) hq e⟩
theorem CallR.appJoin {t:List Row} {i:Nat} {r:Row} (hn:a[m]?=some (.tree t)) (F:Fresh4 a i r) (hm:m<i) (hz:Nat.blt t.length cap=true):CallR g (.builtin "list.append") [.loc m .rows,.loc i .root] a .none (join4 a m i t r):=by
 intro n A σ us _ O rs Q E h
 obtain ⟨u1,u2,rfl,r1,r2⟩:=rs.two
 obtain ⟨rfl,_⟩:=r1.inv_loc
 obtain ⟨rfl,_⟩:=r2.inv_loc
 obtain ⟨y0,y1,us,k,y2,y3,y4⟩:=O.at_ m _ .rows _ hn rfl
 refine append_new y2 (by rw [y3.length];exact y4) fun h' z1 z2=>?_
 obtain ⟨O',X'⟩:=O.join hn F hm y3 z1 z2 (Nat.le_of_ble_eq_true hz)
 exact h _ (σ.at _ h' _) (Nx.at X') O' (.val _)
theorem CallR.get {es:SS} {s q:Str} (e:viewAt a m .root=some (.dictS es)):CallR g (.builtin "dict.get") [.loc m .root,.str s,.str q] a (.str ((look s es).getD q)) a:=by
 intro n A σ us _ O rs Q E h
 cases rs with|cons r1 rs=>
 obtain ⟨u2,u3,rfl,r2,r3⟩:=rs.two
 obtain ⟨rfl,_⟩:=r1.inv_loc
 obtain ⟨t,rfl,_⟩:=r2.inv_str
 obtain ⟨_,_,kvs,z1,z2,z3⟩:=O.part e
 refine call_meetsIn PySem.F.slot_dict_get z1.typeIs PySem.F.entry_dict_get (PySem.F.args_dict_get_3 _ _ _) (meets_dict_get_default (strKind g.prog g.w) _ (strKind_is _ _ _ _) z3 u3) ⟨_,z1.mapOf,?_⟩
 cases q':look s es with
|none=>
  rw [(z2.at_ s).2 q']
  exact h _ (σ.tok _) Nx.tok O (q'▸r3)
|some y=>
  obtain ⟨t,q1,q2⟩:=(z2.at_ s).1 y q'
  rw [q1]
  exact h _ (σ.tok _) Nx.tok O (q'▸.str _ _ q2)
theorem dss_view {es:SS}:∀ q po,view m (.dss es) q=some po→q=.root:=fun q po e=>by cases q<;>first|rfl|cases e
theorem dictI_view {es:List (Int×AV)}:∀ q po,view m (.dictI es) q=some po→q=.root:=fun q po e=>by cases q<;>first|rfl|cases e
theorem CallR.pop {es:SS} {s q:Str} {rest:List AV} (hr:rest=[]∨rest=[.none]) (ho:a[m]?=some (.dss es)) (hq:look s es=some q) (hz:Nat.ble es.length 1000=true):CallR g (.builtin "dict.pop") (.loc m .root::.str s::rest) a (.str q) (a.set m (.dss (delL s es))):=by
 intro n A σ us _ O rs Q E h
 cases rs with|cons r1 rs=>cases rs with|cons r2 rs=>
 obtain ⟨rfl,hdm⟩:=r1.inv_loc
 obtain ⟨t,rfl,hk'⟩:=r2.inv_str
 rename_i us
 have hu:(us=[]∨∃ d,us=[d])∧argsOk "dict.pop" ⟨.ref (σ.C.rho m .root)::.str s t::us,[]⟩:=by
  rcases hr with rfl|rfl
  ·cases rs;exact ⟨.inl rfl,PySem.F.args_dict_pop_2 _ _⟩
  ·obtain ⟨d,rfl,_⟩:=rs.one;exact ⟨.inr ⟨_,rfl⟩,PySem.F.args_dict_pop_3 _ _ _⟩
 obtain ⟨_,_,kvs,z1,z2,z3⟩:=O.at_ m _ .root _ ho rfl
 have hz':kvs.length≤sizeLine:=by rw [z2.length];exact Nat.le_trans (Nat.le_of_ble_eq_true hz) (by decide)
 obtain ⟨t',q1,q2⟩:=(z2.at_ s).1 _ hq
 refine call_meetsIn PySem.F.slot_dict_pop z1.typeIs PySem.F.entry_dict_pop hu.2 (meets_dict_pop_there (strKind g.prog g.w) _ (strKind_is _ _ _ _) us hu.1 rfl) ⟨_,_,z1,hz',q1,fun h' hd hs=>?_⟩
 obtain ⟨O',X'⟩:=O.upd1 (ao':=.dss (delL s es)) ho rfl rfl dss_view dss_view (same_keeps hs) (dict_there (g:=g) hd) ⟨_,hd,z2.del (dict_nodup (g:=g) z1),z3⟩
 exact h _ (σ.at σ.C h' _) (Nx.at X') O' (.str _ _ q2)
theorem CallR.popN {es:SS} {s:Str} (e:viewAt a m .root=some (.dictS es)) (hq:look s es=none):CallR g (.builtin "dict.pop") [.loc m .root,.str s,.none] a .none a:=by
 intro n A σ us _ O rs Q E h
 cases rs with|cons r1 rs=>
 obtain ⟨u2,u3,rfl,r2,r3⟩:=rs.two
 obtain ⟨rfl,_⟩:=r1.inv_loc
 obtain ⟨t,rfl,_⟩:=r2.inv_str
 obtain ⟨_,_,kvs,z1,z2,z3⟩:=O.part e
 exact call_meetsIn PySem.F.slot_dict_pop z1.typeIs PySem.F.entry_dict_pop (PySem.F.args_dict_pop_3 _ _ _) (meets_dict_pop_default (strKind g.prog g.w) _ (strKind_is _ _ _ _) z3 rfl u3) ⟨_,z1,(z2.at_ _).2 hq,h _ (σ.tok _) Nx.tok O r3⟩
theorem strsAre_of {l:List Str} {us:List Value} (r:VReps C (strsAV l) us):StrsAre us l:=by
 induction l generalizing us with
|nil=>cases r;exact .nil
|cons s l ih=>
  cases r with
 |cons r1 r=>obtain ⟨t,rfl,_⟩:=r1.inv_str;exact .cons s t (ih r)
theorem CallR.join {s:Str} {l:List Str} (e:listOf a x=some (strsAV l)) (hz:Nat.ble (l.foldl (fun n p=>n+p.length+s.length) 0) cap=true) (hk:okS (Str.join s l)=true):CallR g (.builtin "str.join") [.str s,x] a (.str (Str.join s l)) a:=by
 intro n A σ us _ O rs Q E h
 obtain ⟨u1,u2,rfl,r1,r2⟩:=rs.two
 obtain ⟨t,rfl,_⟩:=r1.inv_str
 obtain ⟨l',ws,k,rfl,z1,z2,z3⟩:=O.listOf e r2
 refine join_list (x:=s) (ys:=l) ⟨_,z1,rfl,_,rfl⟩ (by simpa using strsAre_of z2) ?_ fun t' k=>?_
 ·have hj:=StrLaws.joinTotal s l
  have hj2:l.toArray.foldl (fun a p=>a+p.length+s.length) 0=l.foldl (fun a p=>a+p.length+s.length) 0:=by simp
  rw [hj2] at hj
  have:=Nat.le_of_ble_eq_true hz
  rw [hj] at this
  unfold cap at this
  omega
 ·have:Txt.join s l=Str.join s l:=StrLaws.glued_eq_join s l
  rw [this]
  exact h _ (σ.tok _) Nx.tok O (.str _ _ hk)
def SetR (g:Cx) (a:Hp) (x i v:AV) (a':Hp):Prop:=∀ A σ u k w,Ok g σ.C σ.h a→VRep σ.C x u→VRep σ.C i k→VRep σ.C v w→Run g A σ (setItem u k w) (fun _ _=>True) a'
theorem SetR.dss {es:SS} {s q:Str} (ho:a[m]?=some (.dss es)) (hz:Nat.ble es.length 500=true):SetR g a (.loc m .root) (.str s) (.str q) (a.set m (.dss (setL s q es))):=by
 intro A σ u k w O r r' rv Q E h
 obtain ⟨rfl,_⟩:=r.inv_loc
 obtain ⟨t,rfl,hk⟩:=r'.inv_str
 obtain ⟨t',rfl,hq⟩:=rv.inv_str
 obtain ⟨_,_,kvs,y2,y3,y4⟩:=O.at_ m _ .root _ ho rfl
 refine wpAny_setItem_pairs (hsz:=by rw [y3.length];exact Nat.le_trans (Nat.le_of_ble_eq_true hz) (by decide)) (strKind_is _ _ _ _) y2 fun h' hd hs=>?_
 obtain ⟨O',X'⟩:=O.upd1 (ao':=.dss (setL s q es)) ho rfl rfl dss_view dss_view (same_keeps hs) (dict_there (g:=g) hd) ⟨_,hd,y3.put hk hq (dict_nodup (g:=g) y2),y4⟩
 exact h () (σ.at σ.C h' _) (Nx.at X') O' trivial
theorem SetR.dictI {es:List (Int×AV)} {i:Int} (ho:a[m]?=some (.dictI es)) (hz:Nat.ble es.length 500=true):SetR g a (.loc m .root) (.int i) v (a.set m (.dictI (setI i v es))):=by
 intro A σ u k w O r r' rv Q E h
 obtain ⟨rfl,_⟩:=r.inv_loc
 obtain ⟨t,rfl⟩:=r'.inv_int
 obtain ⟨_,_,kvs,y2,y3,y4⟩:=O.at_ m _ .root _ ho rfl
 refine wpAny_setItem_pairs (hsz:=by rw [y3.length];exact Nat.le_trans (Nat.le_of_ble_eq_true hz) (by decide)) (intKind_is _ _ _ _) y2 fun h' hd hs=>?_
 obtain ⟨O',X'⟩:=O.upd1 (ao':=.dictI (setI i v es)) ho rfl rfl dictI_view dictI_view (same_keeps hs) (dict_there (g:=g) hd) ⟨_,hd,y3.put rv (dict_nodup (g:=g) y2),y4⟩
 exact h () (σ.at σ.C h' _) (Nx.at X') O' trivial
theorem mapSeq_set (its:Array Value) (n j:Nat) (x:Value):Obj.mapSeq (·.setIfInBounds j x) { cls:=.type "list",data:=.seq its n }={ cls:=.type "list",data:=.seq (its.setIfInBounds j x) n }:=by
 simp [Obj.mapSeq]
theorem list_set {s:Shared} {l:Addr} {us:List Value} {k m:Nat} {i:Int} {t:Tok} {v:Value} {Q:Unit→Shared→Prop} {E:Value→Shared→Prop} (hl:s.heap.get? l=some (lstObj us k)) (hz:us.length≤cap) (ei:i=Int.ofNat m) (hi:m<us.length)
  (h:∀ h',(∀ y o,y≠l→s.heap.get? y=some o→h'.get? y=some o)→h'.get? l=some (lstObj (us.set m v) k)→Q () { s with heap:=h' }):
  wpAny g.M A (setItem (.ref l) (.int i t) v) Q E s:=by
 have L:s.heap.IsList l us.toArray:=⟨_,hl,rfl,_,rfl⟩
 have hfit:Builtin.List.listFitsIndex i=true:=by rw [ei];exact fitsIndex_of (Int.natCast_nonneg _) (by show (m:Int)<_;unfold cap at hz;omega)
 have hx:us.toArray[m]?=some us[m]:=by simp [hi]
 have fin:(s.heap.update l (Obj.mapSeq (·.setIfInBounds m v))).get? l=some (lstObj (us.set m v) k):=by
  rw [Heap.get?_update_self _ hl (by rw [mapSeq_set];rfl),mapSeq_set]
  rw [show us.toArray.setIfInBounds m v=(us.set m v).toArray by simp]
 have kp:∀ y o,y≠l→s.heap.get? y=some o→(s.heap.update l (Obj.mapSeq (·.setIfInBounds m v))).get? y=some o:=fun y o hy e=>(Heap.get?_update_ne _ _ _ _ hy).trans e
 unfold setItem
 try with_reducible refine wpAny_holding ?_
 first|refine wpAny_bind (wpAny_pure ?_)|skip
 refine wpAny_bind (wpAny_sequenceKey L.typeIs (by decide) ?_)
 refine wpAny_bind (wpAny_callSpecial?_slot (name:=Str.ofString "__setitem__") L.typeIs slot_list_setitem
  (wpAny_call_entry slot_list_setitem L.typeIs entry_list_setitem ?_ (args_list_setitem _ _ _)))
 show wpAny _ _ (Builtin.List.listSubscript? (.int i t)>>=_) _ _ s
 refine wpAny_bind (wpAny_listSubscript_int hfit ?_)
 subst ei
 show wpAny _ _ ((seqItemAt l m>>=fun r=>pure (r.map (m,·)))>>=_) _ _ s
 refine wpAny_bind (wpAny_bind (wpAny_seqItemAt hl rfl (wpAny_pure ?_)))
 rw [hx]
 show wpAny _ _ (setSeqItemAt l m v>>=_) _ _ s
 refine wpAny_bind (wpAny_setSeqItemAt hl rfl ?_)
 first
 |exact wpAny_bind (wpAny_pure (wpAny_pure ⟨.none,rfl,wpAny_pure (h _ kp fin)⟩))
 |exact wpAny_pure ⟨.none,rfl,wpAny_pure (h _ kp fin)⟩
theorem list_setN {s:Shared} {l:Addr} {us:List Value} {k:Nat} {i:Int} {t:Tok} {v:Value} {Q:Unit→Shared→Prop} {E:Value→Shared→Prop} (hl:s.heap.get? l=some (lstObj us k)) (hz:us.length≤cap) (ei:i=.negSucc 0) (hi:0<us.length)
  (h:∀ h',(∀ y o,y≠l→s.heap.get? y=some o→h'.get? y=some o)→h'.get? l=some (lstObj (us.set (us.length - 1) v) k)→Q () { s with heap:=h' }):
  wpAny g.M A (setItem (.ref l) (.int i t) v) Q E s:=by
 have L:s.heap.IsList l us.toArray:=⟨_,hl,rfl,_,rfl⟩
 have hfit:Builtin.List.listFitsIndex i=true:=by rw [ei];exact fitsIndex_neg (Int.negSucc_lt_zero 0) (neg_fit hi hz)
 have hidx:seqIndex? i us.toArray.size=some (us.length - 1):=by
  rw [ei,List.size_toArray,seqIndex_neg (Int.negSucc_lt_zero 0) (neg_ge hi)]
  exact congrArg some neg_at
 have hx:us.toArray[us.length - 1]?=some us[us.length - 1]:=(List.getElem?_toArray ..).trans (List.getElem?_eq_getElem _)
 have fin:(s.heap.update l (Obj.mapSeq (·.setIfInBounds (us.length - 1) v))).get? l=some (lstObj (us.set (us.length - 1) v) k):=by
  rw [Heap.get?_update_self _ hl (by rw [mapSeq_set];rfl),mapSeq_set]
  rw [List.setIfInBounds_toArray]
 have kp:∀ y o,y≠l→s.heap.get? y=some o→(s.heap.update l (Obj.mapSeq (·.setIfInBounds (us.length - 1) v))).get? y=some o:=fun y o hy e=>(Heap.get?_update_ne _ _ _ _ hy).trans e
 unfold setItem
 try with_reducible refine wpAny_holding ?_
 first|refine wpAny_bind (wpAny_pure ?_)|skip
 refine wpAny_bind (wpAny_sequenceKey L.typeIs (by decide) ?_)
 refine wpAny_bind (wpAny_callSpecial?_slot (name:=Str.ofString "__setitem__") L.typeIs slot_list_setitem
  (wpAny_call_entry slot_list_setitem L.typeIs entry_list_setitem ?_ (args_list_setitem _ _ _)))
 show wpAny _ _ (Builtin.List.listSubscript? (.int i t)>>=_) _ _ s
 refine wpAny_bind (wpAny_listSubscript_int hfit ?_)
 subst ei
 show wpAny _ _ ((Builtin.List.listItems (.ref l)>>=fun xs=>pure ((seqIndex? (Int.negSucc 0) xs.size).bind fun i=>xs[i]?.map (i,·)))>>=_) _ _ s
 refine wpAny_bind (wpAny_bind ?_)
 show wpAny _ _ (seqItems? (.ref l)>>=_) _ _ s
 refine wpAny_bind (wpAny_seqItems hl rfl (wpAny_pure (wpAny_pure ?_)))
 rw [hidx]
 simp only [Option.bind_some,hx,Option.map_some]
 show wpAny _ _ (setSeqItemAt l (us.length - 1) v>>=_) _ _ s
 refine wpAny_bind (wpAny_setSeqItemAt hl rfl ?_)
 first
 |exact wpAny_bind (wpAny_pure (wpAny_pure ⟨.none,rfl,wpAny_pure (h _ kp fin)⟩))
 |exact wpAny_pure ⟨.none,rfl,wpAny_pure (h _ kp fin)⟩
theorem VReps.set {u:Value} (hv:VRep C v u) {us:List Value} (r:VReps C xs us):∀ j,VReps C (xs.set j v) (us.set j u):=
 r.ind (P:=fun xs us=>∀ j,VReps C (xs.set j v) (us.set j u)) (fun _=>.nil) fun _ _ _ _ h r q j=>by
  cases j with
 |zero=>exact .cons hv r
 |succ j=>exact .cons h (q j)
theorem SetR.list {j:Nat} (ho:a[m]?=some (.list xs)) (hj:j<xs.length):SetR g a (.loc m .root) (.nat j) v (a.set m (.list (xs.set j v))):=by
 intro A σ u k w O r r' rv Q E h
 obtain ⟨rfl,_⟩:=r.inv_loc
 obtain ⟨t,rfl⟩:=r'.inv_int
 obtain ⟨_,_,us,kk,y2,y3,y4⟩:=O.at_ m _ .root _ ho rfl
 refine list_set y2 (by rw [y3.length];exact y4) rfl (by rw [y3.length];exact hj) fun h' z1 z2=>?_
 obtain ⟨O',X'⟩:=O.upd1 (ao':=.list (xs.set j v)) ho rfl rfl (itemsO_view rfl).2 (itemsO_view rfl).2 z1 ⟨_,z2⟩ ⟨us.set j w,kk,z2,y3.set rv j,by rw [List.length_set];exact y4⟩
 exact h () (σ.at σ.C h' _) (Nx.at X') O' trivial
theorem SetR.last (ho:a[m]?=some (.list xs)) (hj:0<xs.length):SetR g a (.loc m .root) (.int (.negSucc 0)) v (a.set m (.list (xs.set (xs.length - 1) v))):=by
 intro A σ u k w O r r' rv Q E h
 obtain ⟨rfl,_⟩:=r.inv_loc
 obtain ⟨t,rfl⟩:=r'.inv_int
 obtain ⟨_,_,us,kk,y2,y3,y4⟩:=O.at_ m _ .root _ ho rfl
 refine list_setN y2 (by rw [y3.length];exact y4) rfl (by rw [y3.length];exact hj) fun h' z1 z2=>?_
 obtain ⟨O',X'⟩:=O.upd1 (ao':=.list (xs.set (xs.length - 1) v)) ho rfl rfl (itemsO_view rfl).2 (itemsO_view rfl).2 z1 ⟨_,z2⟩ ⟨us.set (us.length - 1) w,kk,z2,y3.length▸y3.set rv _,by rw [List.length_set];exact y4⟩
 exact h () (σ.at σ.C h' _) (Nx.at X') O' trivial
end
noncomputable def leL:List Nat→List Nat→Bool
|[],_=>true
|x::xs,ys=>match ys with
 |[]=>false
 |y::ys=>bif Nat.blt x y then true else bif Nat.beq x y then leL xs ys else false
noncomputable def insS (x:Str):List Str→List Str
|[]=>[x]
|y::ys=>bif leL x.cps.toList y.cps.toList then x::y::ys else y::insS x ys
noncomputable def sortS:List Str→List Str
|[]=>[]
|x::xs=>insS x (sortS xs)
noncomputable def digit (i:Int):Option Str:=match i with
|.ofNat 0=>some (Str.ofString "0")
|.ofNat 1=>some (Str.ofString "1")
|_=>none
theorem leL_eq (a:List Nat):∀ b:List Nat,leL a b=!decide (b<a):=by
 induction a with
|nil=>intro b;rw [decide_eq_false (List.not_lt_nil b)];rfl
|cons x xs ih=>
  intro b
  cases b with
 |nil=>rw [decide_eq_true (List.nil_lt_cons x xs)];rfl
 |cons y ys=>
   show (bif Nat.blt x y then true else bif Nat.beq x y then leL xs ys else false)=_
   rw [ih ys]
   rcases Nat.lt_trichotomy x y with h|h|h
   ·have h2:¬ (y::ys<x::xs):=by rw [List.cons_lt_cons_iff];omega
    rw [show Nat.blt x y=true from Nat.ble_eq_true_of_le h]
    simp [h2]
   ·subst h
    rw [show Nat.blt x x=false from Bool.eq_false_iff.mpr fun z=>Nat.lt_irrefl x (Nat.le_of_ble_eq_true z),Nat.beq_refl]
    have:(x::ys<x::xs)↔ys<xs:=by rw [List.cons_lt_cons_iff];simp
    simp [this]
   ·rw [show Nat.blt x y=false from Bool.eq_false_iff.mpr fun z=>Nat.lt_asymm h (Nat.le_of_ble_eq_true z),show Nat.beq x y=false from Bool.eq_false_iff.mpr fun z=>Nat.ne_of_gt h (Nat.eq_of_beq_eq_true z)]
    have h2:y::ys<x::xs:=by rw [List.cons_lt_cons_iff];exact .inl h
    simp [h2]
def LeS (a b:Str):Prop:=¬ b.cps.toList<a.cps.toList
theorem leS_leL {a b:Str}:leL a.cps.toList b.cps.toList=true↔LeS a b:=by
 rw [leL_eq];simp [LeS]
theorem LeS.trans {a b c:Str} (h1:LeS a b) (h2:LeS b c):LeS a c:=by
 unfold LeS at *
 rw [List.not_lt] at *
 exact List.le_trans h1 h2
theorem LeS.total {a b:Str} (h:¬ LeS a b):LeS b a:=fun h'=>h fun z=>List.lt_irrefl _ (List.lt_trans z h')
theorem LeS.anti {a b:Str} (h1:LeS a b) (h2:LeS b a):a=b:=by
 unfold LeS at *
 rw [List.not_lt] at *
 have:=List.le_antisymm h1 h2
 cases a;cases b
 exact congrArg Str.mk (Array.toList_inj.mp this)
theorem insS_perm (x:Str) (l:List Str):(insS x l).Perm (x::l):=by
 induction l with
|nil=>exact .refl _
|cons y ys ih=>
  rw [insS]
  cases leL x.cps.toList y.cps.toList with
 |true=>exact .refl _
 |false=>exact (ih.cons y).trans (List.Perm.swap x y ys)
theorem sortS_perm (l:List Str):(sortS l).Perm l:=by
 induction l with
|nil=>exact .refl _
|cons x xs ih=>exact (insS_perm x _).trans (ih.cons x)
theorem LeS.cons {x y:Str} {l:List Str} (h1:LeS x y) (h:(y::l).Pairwise LeS):(x::y::l).Pairwise LeS:=
 List.pairwise_cons.mpr ⟨fun z hz=>(List.mem_cons.mp hz).elim (fun e=>e▸h1) fun hz=>h1.trans ((List.pairwise_cons.mp h).1 z hz),h⟩
theorem insS_sorted (x:Str) (l:List Str) (h:l.Pairwise LeS):(insS x l).Pairwise LeS:=by
 induction l with
|nil=>exact List.pairwise_cons.mpr ⟨fun _ h=>(nomatch h),.nil⟩
|cons y ys ih=>
  have h':=List.pairwise_cons.mp h
  rw [insS]
  cases q:leL x.cps.toList y.cps.toList with
 |true=>exact (leS_leL.mp q).cons h
 |false=>
   have q:LeS y x:=LeS.total fun z=>by rw [leS_leL.mpr z] at q;cases q
   exact List.pairwise_cons.mpr ⟨fun z hz=>(List.mem_cons.mp ((insS_perm x ys).mem_iff.mp hz)).elim (fun e=>e▸q) (h'.1 z),ih h'.2⟩
theorem sortS_sorted (l:List Str):(sortS l).Pairwise LeS:=by
 induction l with
|nil=>exact .nil
|cons x xs ih=>exact insS_sorted x _ ih
theorem rising_pair (l:List Str):∀ p:Str,risingS p l=true→(p::l).Pairwise LeS:=by
 induction l with
|nil=>exact fun p _=>List.pairwise_cons.mpr ⟨fun _ h=>(nomatch h),.nil⟩
|cons x r ih=>
  intro p h
  unfold risingS at h
  rw [Bool.and_eq_true] at h
  refine LeS.cons ?_ (ih x h.2)
  have:=h.1
  rw [ltCps_eq] at this
  simpa [LeS] using this
theorem sortS_of {l l':List Str} (hp:l'.Perm l) (hs:sortedS l'=true):l'=sortS l:=by
 refine List.Perm.eq_of_pairwise (le:=LeS) (fun _ _ _ _ h1 h2=>h1.anti h2) ?_ (sortS_sorted l) (hp.trans (sortS_perm l).symm)
 cases l' with
|nil=>exact .nil
|cons x r=>exact rising_pair r x hs
section
variable {g:Cx} {T:Tabs} {D D':Nat→Prop} {C C' C₀ C₁:Cfg} {h h' h₀ h₁:Heap} {a a' a₀ a₁ a₂ a₃:Hp} {n m:Nat} {σ σ':St} {sc:Scope} {vs vs' vs₁:Vars} {A:Around} {env:Env} {b c:Bool} {v u x y z:AV} {e f t l r:Expr} {p d:Part} {pos:Pos} {xs ys:List AV} {o o':AObj}
theorem CallR.lenS {s:Str}:CallR g (.builtin "len") [.str s] a (.nat s.cps.toList.length) a:=by
 intro n A σ us _ O rs Q E h
 obtain ⟨u,rfl,r⟩:=rs.one
 obtain ⟨t,rfl,hs⟩:=r.inv_str
 have hl:=okS_16 hs
 have hl2:s.length=s.cps.toList.length:=by simp [Str.length]
 refine PySem.P.len_str (by omega) ?_
 rw [show ((s.length:Nat):Int)=Int.ofNat s.cps.toList.length by rw [hl2];rfl]
 exact h _ (σ.tok _) Nx.tok O (.int _ _)
theorem CallR.lenL {k:Nat} (e:listOf a x=some xs) (hk:xs.length=k):CallR g (.builtin "len") [x] a (.nat k) a:=by
 intro n A σ us _ O rs Q E h
 obtain ⟨u,rfl,r⟩:=rs.one
 obtain ⟨l,ws,j,rfl,z1,z2,z3⟩:=O.listOf e r
 refine Calls.call_len_list (items:=ws.toArray) ⟨_,z1,rfl,_,rfl⟩ ?_ ?_
 ·rw [← z2.length] at z3;unfold cap at z3;rw [List.size_toArray];omega
 ·rw [show ((ws.toArray.size:Nat):Int)=Int.ofNat k by rw [List.size_toArray,z2.length,hk];rfl]
  exact h _ (σ.tok _) Nx.tok O (.int _ _)
theorem CallR.intB:CallR g (.type "int") [.bool b] a (.nat b.toNat) a:=by
 intro n A σ us _ O rs Q E h
 obtain ⟨u,rfl,r⟩:=rs.one
 obtain rfl:=r.inv_val
 refine call_int_bool ?_
 cases b<;>exact h _ (σ.tok _) Nx.tok O (.int _ _)
theorem CallR.intI {i:Int}:CallR g (.type "int") [.int i] a (.int i) a:=by
 intro n A σ us _ O rs Q E h
 obtain ⟨u,rfl,r⟩:=rs.one
 obtain ⟨t,rfl⟩:=r.inv_int
 exact call_int_int (h _ (σ.tok _) Nx.tok O (.int _ _))
theorem CallR.list (e:listOf a x=some xs) (ho:itemsO o=some xs):CallR g (.type "list") [x] a (.loc a.length .root) (a++[o]):=by
 intro n A σ us _ O rs Q E h
 obtain ⟨u,rfl,r⟩:=rs.one
 obtain ⟨l,ws,k,rfl,z1,z2,z3⟩:=O.listOf e r
 refine call_list_seq (hsz:=by rw [List.size_toArray,z2.length];exact cap_size z3) l (.inl rfl) z1 rfl rfl fun h' c' hk hD=>?_
 have V:=itemsO_view (n:=a.length) ho
 obtain ⟨C',y1,y2,y3⟩:=O.new1 (ao:=o) (none_of_size _) ⟨_,hD⟩ hk V.1 (fun p po'=>V.2 p po') (fun C' M e'=>⟨ws,c',by rw [e',hD],z2.mono M,z3⟩)
 exact h _ (σ.at C' h' _) (Nx.at y2) y1 y3
theorem CallR.strI {i:Int} {s:Str} (e:(i=0∧s=Str.ofString "0")∨(i=1∧s=Str.ofString "1")):CallR g (.type "str") [.int i] a (.str s) a:=by
 intro n A σ us _ O rs Q E h
 obtain ⟨u,rfl,r⟩:=rs.one
 obtain ⟨t,rfl⟩:=r.inv_int
 have key:((toString i:String):Str)=s∧okS s=true:=by
  rcases e with ⟨rfl,rfl⟩|⟨rfl,rfl⟩
  ·exact ⟨by decide +kernel,by decide +kernel⟩
  ·exact ⟨by decide +kernel,by decide +kernel⟩
 refine PySem.P.str_of_int (by rcases e with ⟨rfl,_⟩|⟨rfl,_⟩<;>decide) (h _ (σ.tok _) Nx.tok O ?_)
 rw [key.1]
 exact .str _ _ key.2
theorem vreps_strs {us:List Value} {l:List Str} (h:StrsAre us l):(∀ x∈l,okS x=true)→VReps C (strsAV l) us:=by
 induction h with
|nil=>exact fun _=>.nil
|cons x t r ih=>exact fun h=>.cons (.str x t (h x List.mem_cons_self)) (ih fun y hy=>h y (List.mem_cons_of_mem _ hy))
theorem vreps_ok {l:List Str} {us:List Value} (r:VReps C (strsAV l) us):∀ x∈l,okS x=true:=by
 induction l generalizing us with
|nil=>exact fun x hx=>nomatch hx
|cons s l ih=>
  cases r with
 |cons r1 r=>
   intro x hx
   rcases List.mem_cons.mp hx with rfl|hx
   ·obtain ⟨_,_,hs⟩:=r1.inv_str;exact hs
   ·exact ih r x hx
theorem Ok.sorted {ss:List Str} {us:List Value} {x:Addr} {k:Nat} (O:Ok g C h a) (hS:StrsAre us (sortS ss)) (ok2:∀ x∈ss,okS x=true) (hn:ss.length<60) (hx:h.get? x=none) (he:h'.get? x=some (lstObj us k)) (kp:∀ x o,h.get? x=some o→h'.get? x=some o):
  ∃ C',Ok g C' h' (a++[.txs (sortS ss)])∧Ext All true C h C' h'∧VRep C' (.loc a.length .root) (.ref x):=
 O.new1 (ao:=.txs (sortS ss)) hx ⟨_,he⟩ kp rfl (fun p po' e=>by cases p<;>first|rfl|cases e)
  (fun C' M e'=>⟨us,k,by rw [e',he],vreps_strs hS fun x hx=>ok2 x ((sortS_perm ss).mem_iff.mp hx),by rw [strsAV,List.length_map,(sortS_perm ss).length_eq];exact Nat.le_trans (Nat.le_of_lt hn) (by decide)⟩)
theorem CallR.sortL {ss:List Str} (e:listOf a x=some (strsAV ss)) (hn:Nat.blt ss.length 60=true):CallR g (.builtin "sorted") [x] a (.loc a.length .root) (a++[.txs (sortS ss)]):=by
 intro n A σ us _ O rs Q E h
 obtain ⟨u,rfl,r⟩:=rs.one
 obtain ⟨l,us,k,rfl,hl,r,_⟩:=O.listOf e r
 have hn:ss.length<60:=Nat.le_of_ble_eq_true hn
 have hS:=strsAre_of r
 have hlen:us.length=ss.length:=by rw [r.length,strsAV,List.length_map]
 refine sorted_strs ⟨_,hl,rfl,_,rfl⟩ hS (by omega) fun out ss' a1 a2 a3=>?_
 obtain ⟨e,he⟩:=sortedAll_at σ.h us out
 obtain rfl:=sortS_of a2 a3
 obtain ⟨C',z1,z2,z3⟩:=O.sorted a1 (vreps_ok r) hn (size_none _ 1) he fun _ _=>sortedAll_old
 exact h _ (σ.at C' _ _) (Nx.at z2) z1 z3
theorem keys_ok {es:SS} {kvs:List (Str×Value)} (h:SPairs es kvs):kvs.map (·.1)=es.map (·.1)∧∀ x∈es.map (·.1),okS x=true:=by
 induction h with
|nil=>exact ⟨rfl,fun _ h=>(nomatch h)⟩
|cons hk _ _ ih=>
  refine ⟨congrArg (_::·) ih.1,fun x hx=>?_⟩
  rcases List.mem_cons.mp hx with rfl|hx
  ·exact hk
  ·exact ih.2 x hx
theorem strsAre_items (vs:List Value):∀ {ks:List Str},vs.length=ks.length→(∀ (j:Nat) (v:Value),vs[j]?=some v→∃ k t,ks[j]?=some k∧v=Value.str k t)→StrsAre vs ks:=by
 induction vs with
|nil=>intro ks hl _;cases ks with
 |nil=>exact .nil
 |cons _ _=>cases hl
|cons v vs ih=>
  intro ks hl h
  cases ks with
 |nil=>cases hl
 |cons k ks=>
   obtain ⟨k',t,e1,rfl⟩:=h 0 v rfl
   cases e1
   exact .cons k t (ih (Nat.succ.inj hl) fun j v e=>h (j+1) v e)
theorem CallR.sortD {es:SS} (e:viewAt a m .root=some (.dictS es)) (hn:Nat.blt es.length 60=true):CallR g (.builtin "sorted") [.loc m .root] a (.loc a.length .root) (a++[.txs (sortS (es.map (·.1)))]):=by
 intro n A σ us hR O rs Q E h
 obtain ⟨u,rfl,r⟩:=rs.one
 obtain ⟨rfl,_⟩:=r.inv_loc
 obtain ⟨_,_,kvs,hd,r,lo⟩:=O.part e
 have hn:es.length<60:=Nat.le_of_ble_eq_true hn
 obtain ⟨ep,hat⟩:=hd.dictAt
 obtain ⟨k1,k2⟩:=keys_ok r
 have hlen:kvs.length=es.length:=r.length
 refine Calls.call_function_entry kind_sorted plain_sorted entry_sorted (args_sorted1 _) ?_
 unfold Builtin.«sorted»
 refine wpAny_bind (m:=checkCount "sorted" 1 1 _) (wpAny_pure ?_)
 refine wpAny_bind (kdu_collect (A:=A.in1) (kdl_dict (knd:=PySem.strKind g.prog g.w) (kvs:=kvs) (ep:=ep) lo) hR.handled hat (by rw [sizeLine_eq];omega) fun h₁ t₁ acc hk hacc=>?_)
 have hS:StrsAre acc.toList (es.map (·.1)):=by
  refine strsAre_items acc.toList (by rw [Array.length_toList,hacc.1,List.length_map,hlen]) fun j v e=>?_
  obtain ⟨k,x,e1,e2⟩:=hacc.2 j v (by rw [← Array.getElem?_toList];exact e)
  obtain ⟨t,rfl⟩:=Value.isStrOf_shape e2
  refine ⟨k,t,?_,rfl⟩
  rw [← k1,List.getElem?_map,e1];rfl
 have hl64:acc.toList.length<64:=by rw [Array.length_toList,hacc.1,hlen];omega
 refine wpAny_bind (wpAny_newList ?_ (by rw [sizeLine_eq];omega))
 have hoL:(h₁.push (seqObj "list" acc.toList.toArray 0)).get? h₁.objs.size=some (seqObj "list" acc.toList.toArray 0):=Heap.get?_push_size _ rfl
 show wpAny _ _ _ _ _ { σ.s with heap:=h₁.push (seqObj "list" acc.toList.toArray 0),toks:=t₁ }
 refine wpAny_bind (wpAny_holding (wpAny_call_entry PyProof.Rows.slot_list_sort ⟨_,hoL,rfl⟩ PyProof.Rows.entry_list_sort (list_sort_treeK strKind_oneLt hoL hS.keysOf (fun v₁ v₂ rest e=>keyKind_strs (by rw [← e];exact hS)) hl64 fun st' a1 a2=>⟨_,rfl,?_⟩) (PyProof.Rows.args_list_sort _)))
 refine wpAny_pure ⟨_,rfl,?_⟩
 obtain ⟨ss',b1,b2,b3⟩:=sorted_out_str hS a1 a2
 obtain rfl:=sortS_of b2 b3
 obtain ⟨e,he⟩:=sortedHeap_at (out:=(arrOf st').map (·.2)) hoL
 have hx:σ.h.get? h₁.objs.size=none:=by
  cases q:σ.h.get? h₁.objs.size with
 |none=>rfl
 |some o=>exact absurd (Heap.lt_size (hk _ _ q)) (Nat.lt_irrefl _)
 have kp:∀ x o,σ.h.get? x=some o→(sortedHeap (h₁.push (seqObj "list" acc.toList.toArray 0)) h₁.objs.size acc.toList ((arrOf st').map (·.2))).get? x=some o:=fun x o ho=>by
  have hlt:=Heap.lt_size (hk _ _ ho)
  rw [sortedHeap_old (Nat.ne_of_lt hlt) (by rw [size_push'];exact Nat.lt_succ_of_lt hlt)]
  exact Heap.get?_push_of_some _ (hk _ _ ho)
 obtain ⟨C',z1,z2,z3⟩:=O.sorted (us:=((arrOf st').map (·.2)).toList) b1 k2 (by rw [List.length_map];exact hn) hx he kp
 exact h _ (σ.at C' _ t₁) (Nx.at z2) z1 z3
end
section
variable {g:Cx} {T:Tabs} {D D':Nat→Prop} {C C' C₀ C₁:Cfg} {h h' h₀ h₁:Heap} {a a' a₀ a₁ a₂ a₃:Hp} {n m:Nat} {σ σ':St} {sc:Scope} {vs vs' vs₁:Vars} {A:Around} {env:Env} {b c:Bool} {v u x y z:AV} {e f t l r:Expr} {p d:Part} {pos:Pos} {xs ys pre:List AV} {o o':AObj} {es:List Expr}
theorem plain_es (hs:es.all noStar=true):(backTo pos (starEach es env)).any (·.1)=false∧(backTo pos (starEach es env)).all (fun x=>!x.1)=true:=by
 induction es with
|nil=>exact ⟨rfl,rfl⟩
|cons x es ih=>
  rw [List.all_cons,Bool.and_eq_true] at hs
  rw [starEach_cons hs.1]
  obtain ⟨z1,z2⟩:=ih hs.2
  unfold backTo at z1 z2 ⊢
  exact ⟨by rw [List.map_cons,List.any_cons,z1];rfl,by rw [List.map_cons,List.all_cons,z2];rfl⟩
theorem EsR.args (hs:es.all noStar=true) (H:EsR g n sc vs es a xs a') (hR:Room n A) (hE:EnvOk env sc) (O:Ok g σ.C σ.h a) (V:VR g σ env vs) {Q:Args→Shared→Prop} {E:Value→Shared→Prop} {f:Value}
  (h:∀ us σ',Nx All true σ σ'→Ok g σ'.C σ'.h a'→VReps σ'.C xs us→Q ⟨us,[]⟩ σ'.s):wpAny g.M A (evalArgs f true (backTo pos (starEach es env)) []) Q E σ.s:=by
 cases es with
|nil=>
  obtain ⟨rfl,rfl⟩:=H.1 rfl
  exact evalArgs_nil3 (h [] σ .refl O .nil)
|cons x es=>
  have z:=H.2 A env σ pos hR hE O V (fun us s'=>Q ⟨us,[]⟩ s') E h
  rw [List.all_cons,Bool.and_eq_true] at hs
  rw [starEach_cons hs.1] at z ⊢
  exact Calls.evalArgs_plain z
def WithR (g:Cx) (n:Nat) (fv:Value) (pre:List AV) (sc:Scope) (vs:Vars) (es:List Expr) (a:Hp) (v:AV) (a':Hp):Prop:=∀ A env σ pos ups,Room n A→EnvOk env sc→Ok g σ.C σ.h a→VR g σ env vs→VReps σ.C pre ups→Run g A σ (callWith pos fv ups (backTo pos (starEach es env)) []) (fun C u=>VRep C v u) a'
theorem looks_fn {M:Model} {f:Addr} {o:Obj} {fd:FuncData} (h1:h.get? f=some o) (h2:o.data=.func fd):Looks M h (keeperOf (.ref f)) Keeper.frame:=by
 obtain ⟨_,_,_,_⟩:=o
 cases h2
 exact (Looks.ld (part:=none) h1).andThen .now
def IsFn (g:Cx) (f:Addr):Prop:=∃ o fd,g.hb.get? f=some o∧o.data=.func fd
theorem Gl.isFn (G:Gl g T) {f:Addr} {d:FnD} (hd:T.fn f=some d):IsFn g f:=by obtain ⟨o,fd,f1,f2,_⟩:=(G.fn f d hd).there;exact ⟨o,fd,f1,f2⟩
theorem WithR.fn {f:Addr} (hf:IsFn g f) (hs:es.all noStar=true) (H:EsR g n sc vs es a xs a₁) (K:CD g n All f (pre++xs) a₁ v a'):WithR g n (.ref f) pre sc vs es a v a':=by
 intro A env σ pos ups hR hE O V rp Q E h
 obtain ⟨o,fd,f1,f2⟩:=hf
 exact callWith_of (P:=fun h=>h.get? f=some o) (by rw [(plain_es hs).1];rfl) (fun h hg=>⟨_,.inl rfl,looks_fn hg f2⟩) (H.args hs hR hE O V fun us σ₁ x₁ O₁ r₁=>⟨O₁.stays _ _ f1,wpAny_call (K A σ₁ (ups++us) _ hR O₁ ((rp.mono x₁.more).append r₁) fun u σ₂ x₂=>h u σ₂ (x₁.trans x₂))⟩)
theorem WithR.blt {id:String} (hs:es.all noStar=true) (H:EsR g n sc vs es a xs a₁) (K:CallR g (.builtin id) (pre++xs) a₁ v a'):WithR g n (.builtin id) pre sc vs es a v a':=fun A env σ pos ups hR hE O V rp Q E h=>
 Calls.callWith_builtin (plain_es hs).1 (H.args hs hR hE O V fun us σ₁ x₁ O₁ r₁=>K n A σ₁ (ups++us) hR O₁ ((rp.mono x₁.more).append r₁) _ _ fun u σ₂ x₂=>h u σ₂ (x₁.trans x₂))
theorem WithR.typ {id:String} (hs:es.all noStar=true) (H:EsR g n sc vs es a xs a₁) (K:CallR g (.type id) (pre++xs) a₁ v a'):WithR g n (.type id) pre sc vs es a v a':=fun A env σ pos ups hR hE O V rp Q E h=>
 PyProof.Rows.callWith_type (plain_es hs).1 (H.args hs hR hE O V fun us σ₁ x₁ O₁ r₁=>K n A σ₁ (ups++us) hR O₁ ((rp.mono x₁.more).append r₁) _ _ fun u σ₂ x₂=>h u σ₂ (x₁.trans x₂))
theorem keep_cls {k:Addr} (h:makesIn g.K k=true):keepIn g.K (.ref k)=true:=by
 unfold makesIn at h
 split at h
 ·rename_i q
  simp only [Bool.and_eq_true] at h
  unfold keepIn
  simp only [q]
  exact h.1.2
 ·cases h
theorem inst_room {n:Nat} {A:Around} (h:Room (n+1) A) (k:Addr) (vals:List Value):Room n (A.under (.builtin "type.__call__" ⟨.ref k::vals,[]⟩)):=
 ⟨h.handled,by rw [PyProof.Rows.depth_under_make];exact ar1 h.depth,ar2 (k:=1) h.units (by decide)⟩
theorem Ok.pushInst (O:Ok g C h a) (k:Addr):∃ C',Ok g C' ((h.push emptyDict).push (instObj k h.objs.size)) (a++[.inst k []])∧Ext All true C h C' ((h.push emptyDict).push (instObj k h.objs.size))∧VRep C' (.loc a.length .root) (.ref (h.objs.size+1)):=by
 have kp:∀ b o,h.get? b=some o→((h.push emptyDict).push (instObj k h.objs.size)).get? b=some o:=fun b o e=>Heap.get?_push_of_some _ (Heap.get?_push_of_some _ e)
 have d1:((h.push emptyDict).push (instObj k h.objs.size)).get? h.objs.size=some emptyDict:=Heap.get?_push_of_some _ (Heap.get?_push_size _ rfl)
 have d2:((h.push emptyDict).push (instObj k h.objs.size)).get? (h.objs.size+1)=some (instObj k h.objs.size):=by
  have:=Heap.get?_push_size (h.push emptyDict) (o:=instObj k h.objs.size) rfl
  rwa [Heap.size_push] at this
 have ne:h.objs.size≠h.objs.size+1:=Nat.ne_of_lt (Nat.lt_succ_self _)
 have mm:∀ y u,(if y=h.objs.size+1 then some (Own.mu a.length .root) else if y=h.objs.size then some (.mu a.length .rootd) else none)=some u→h.get? y=none∧(∃ n p,u=.mu n p)∧∃ o,((h.push emptyDict).push (instObj k h.objs.size)).get? y=some o:=fun y u e=>by
  split at e
  ·rename_i z;subst z;exact ⟨size_none _ 1,⟨_,_,(Option.some.inj e).symm⟩,_,d2⟩
  ·split at e
   ·rename_i z;subst z;exact ⟨none_of_size _,⟨_,_,(Option.some.inj e).symm⟩,_,d1⟩
   ·cases e
 obtain ⟨q1,q2⟩:=O.newG (D:=fun p=>p=.root∨p=.rootd) (f:=fun p=>match p with|.root=>h.objs.size+1|_=>h.objs.size)
  (m:=fun y=>if y=h.objs.size+1 then some (.mu a.length .root) else if y=h.objs.size then some (.mu a.length .rootd) else none) (ao:=.inst k []) (h':=(h.push emptyDict).push (instObj k h.objs.size))
  (fun y u e=>have z:=mm y u e;⟨O.own_none z.1,O.fz_none z.1,z.2.2⟩) kp
  (fun p hp=>by rcases hp with rfl|rfl<;>exact ⟨_,rfl⟩)
  (fun p po e=>by
   cases p<;>first|(cases e;done)|skip
   ·cases e
    refine ⟨.inl rfl,if_pos rfl,fun M=>⟨?_,.inr ⟨rfl,.inr rfl⟩⟩⟩
    rw [Cfg.new_rho,Cfg.new_rho]
    exact d2
   ·cases e
    refine ⟨.inr rfl,(if_neg ne).trans (if_pos rfl),fun M=>⟨[],0,?_,.nil⟩⟩
    rw [Cfg.new_rho]
    exact d1)
 refine ⟨_,q1,(Ext.grow fun _ _ e=>e:Ext All true C h C h).newG (fun n p e=>Nat.ne_of_lt (O.N n p e)) (fun y u e=>have z:=mm y u e;⟨z.2.1,z.1,O.own_none z.1⟩) kp,?_⟩
 have z:=VRep.loc (C:=C.new a.length (fun p=>p=.root∨p=.rootd) (fun p=>match p with|.root=>h.objs.size+1|_=>h.objs.size) (fun y=>if y=h.objs.size+1 then some (.mu a.length .root) else if y=h.objs.size then some (.mu a.length .rootd) else none)) a.length .root (.inr ⟨rfl,.inl rfl⟩)
 rw [Cfg.new_rho] at z
 exact z
theorem WithR.cls {k i:Addr} (G:Gl g T) (hi:T.init k=some i) (hs:es.all noStar=true) (H:EsR g (n+1) sc vs es a xs a₁) (K:CD g n All i (.loc a₁.length .root::xs) (a₁++[.inst k []]) .none a₂)
  (L:∀ C h,Ok g C h a₂→∃ C',Ok g C' h a'∧Ext All true C h C' h):WithR g (n+1) (.ref k) [] sc vs es a (.loc a₁.length .root) a':=by
 intro A env σ pos ups hR hE O V rp Q E h
 cases rp
 obtain ⟨i1,i2,i3⟩:=G.init k i hi
 refine callWith_of (P:=fun h=>g.K.In h) (by rw [(plain_es hs).1];rfl) (keeps_K (keep_cls i1)) (H.args hs hR hE O V fun us σ₁ x₁ O₁ r₁=>⟨G.X.keeps O₁.stays,wpAny_call ?_⟩)
 have X:=G.X.keeps O₁.stays
 refine make_core (makes_of X i1) (looks_findIn X i2) (fun self=>bind_fn X self (beq_iff_eq.mp i3)) (.inl rfl) ?_
 obtain ⟨C₂,O₂,x₂,r₂⟩:=O₁.pushInst k
 refine K _ (σ₁.at C₂ _ _) _ _ (inst_room hR k us) O₂ (.cons r₂ (r₁.mono x₂.more)) fun u σ₃ x₃ O₃ r₃=>?_
 obtain ⟨C₄,O₄,x₄⟩:=L _ _ O₃
 refine ⟨r₃.inv_val,?_⟩
 have x₂₃:=(Nx.at x₂).trans x₃
 exact h _ ⟨C₄,σ₃.s⟩ (x₁.trans (x₂₃.trans ⟨x₄,rfl⟩)) O₄ ((r₂.mono x₃.more).mono x₄.more)
theorem EvR.call {k:Str} {q:Pos} {fv:Value} (H:EvR g n sc vs (.Name k q) a (.val fv) a) (K:WithR g n fv [] sc vs es a v a'):EvR g n sc vs (.Call (.Name k q) es [] pos) a v a':=by
 intro A env σ hR hE O V Q E h
 show wpAny _ A (eval (.Name k q) env>>=fun fv=>callWith pos fv [] (backTo pos (starEach es env)) []) Q E σ.s
 refine wpAny_bind (H A env σ hR hE O V _ E fun u σ₁ x₁ O₁ r₁=>?_)
 obtain rfl:=r₁.inv_val
 exact K A env σ₁ pos [] hR hE O₁ (V.ext x₁) .nil Q E fun u σ₂ x₂=>h u σ₂ (x₁.trans x₂)
theorem EvR.meth {name:Str} {ap:Pos} {fv:Value} (hp:Nat.beq ap.endLine pos.line=true) (hl:Nat.blt es.length 20=true) (hs:es.all noStar=true) (hb:∀ env t,attributeBase l name env t=t)
  (H:EvR g n sc vs l a x a₁) (B:MethR g a₁ x name fv) (K:WithR g n fv [x] sc vs es a₁ v a'):EvR g n sc vs (.Call (.Attribute l name ap) es [] pos) a v a':=by
 intro A env σ hR hE O V Q E h
 have hline:(ap.endLine==pos.line)=true:=beq_iff_eq.mpr (Nat.eq_of_beq_eq_true hp)
 rw [arm_eval_Call,hb]
 refine wpAny_bind (H A env σ hR hE O V _ E fun u σ₁ x₁ O₁ r₁=>?_)
 refine wpAny_bind (wpAny_standAt ?_)
 have hform:methodCallForm (es.length+([]:List Keyword).length) (backTo pos (starEach es env)) (backToKw pos (keywordEach [] env))=true:=by
  unfold methodCallForm
  rw [(plain_es hs).2]
  exact decide_eq_true (show es.length+0+0<30 from Nat.lt_of_lt_of_le (Nat.le_of_ble_eq_true hl) (by decide))
 have hpos:methodCallPos true l env ap pos=pure pos:=by unfold methodCallPos;simp [hline]
 unfold methodCall
 rw [hform]
 refine wpAny_bind (wpAny_holding ?_)
 unfold calleeOf
 rw [if_pos rfl]
 refine B A σ₁ u _ O₁ r₁ _ _ fun q σ₂ x₂ O₂ r₂=>?_
 subst r₂
 refine wpAny_bind (wpAny_of_eq hpos ?_)
 have x₁₂:=x₁.trans x₂
 exact K A env σ₂ pos [u] hR hE O₂ (V.ext x₁₂) (.cons (r₁.mono x₂.more) .nil) Q E fun u σ₃ x₃=>h u σ₃ (x₁₂.trans x₃)
end
section
variable {g:Cx} {T:Tabs} {D D':Nat→Prop} {C C' C₀ C₁:Cfg} {h h' h₀ h₁:Heap} {a a' a₀ a₁ a₂ a₃:Hp} {n m:Nat} {σ σ':St} {sc:Scope} {vs vs' vs₁:Vars} {A:Around} {env:Env} {b c:Bool} {v u x y z:AV} {e f t l r:Expr} {p:Pos} {xs ys:List AV} {o:AObj}
theorem Gl.size (G:Gl g T) (O:Ok g C h a):(h.objs.size==sysModules)=false:=by
 obtain ⟨x,o,hx,ho⟩:=G.mods
 have:=Heap.lt_size (O.stays _ _ ho)
 exact beq_eq_false_iff_ne.mpr (Nat.ne_of_gt (Nat.lt_of_le_of_lt hx this))
theorem EvR.dss0 (G:Gl g T):EvR g n sc vs (.Dict [] [] p) a (.loc a.length .root) (a++[.dss []]):=fun A env σ hR hE O V Q E h=>wpAny_Dict_empty (by
 obtain ⟨C₁,O₁,x₁,r₁⟩:=O.new1 (ao:=.dss []) (po:=.dictS []) (none_of_size σ.h) ⟨_,Heap.get?_push_size _ rfl⟩ (push_keeps σ.h { cls:=.type "dict",data:=.dict #[] }) rfl dss_view (fun C' M e=>⟨[],e▸Heap.DictOf.new (knd:=PySem.strKind g.prog g.w) σ.h,.nil,e▸G.size O⟩)
 exact h _ (σ.at C₁ _ _) (Nx.at x₁) O₁ r₁)
theorem EvR.dictI0 (G:Gl g T):EvR g n sc vs (.Dict [] [] p) a (.loc a.length .root) (a++[.dictI []]):=fun A env σ hR hE O V Q E h=>wpAny_Dict_empty (by
 obtain ⟨C₁,O₁,x₁,r₁⟩:=O.new1 (ao:=.dictI []) (po:=.dictI []) (none_of_size σ.h) ⟨_,Heap.get?_push_size _ rfl⟩ (push_keeps σ.h { cls:=.type "dict",data:=.dict #[] }) rfl dictI_view (fun C' M e=>⟨[],e▸Heap.DictOf.new (knd:=PySem.intKind g.prog g.w) σ.h,.nil,e▸G.size O⟩)
 exact h _ (σ.at C₁ _ _) (Nx.at x₁) O₁ r₁)
def EvN (g:Cx) (sc:Scope) (e:Expr) (v:AV):Prop:=∀ A env (σ:St) (a:Hp) (Q:Value→Shared→Prop) (E:Value→Shared→Prop),EnvOk env sc→Ok g σ.C σ.h a→(∀ u t,VRep σ.C v u→Q u { σ.s with toks:=t })→wpAny g.M A (eval e env) Q E σ.s
theorem EvN.str {s:Str} {k:Nat} (hs:okS s=true):EvN g sc (.Constant (.str s) k p) (.str s):=fun _ _ _ _ _ _ _ _ h=>Calls.Constant_str (h _ _ (.str _ _ hs))
theorem EvN.glob {k:Str} (G:Gl g T) (e1:look k sc.names=some .globalImplicit) (e2:T.glob k=some v):EvN g sc (.Name k p) v:=by
 intro A env σ a Q E hE O h
 obtain ⟨q1,q2,_⟩:=hE.nm k _ e1
 obtain ⟨u,hg,hr⟩:=G.glob k v e2
 exact wpAny_Name (wpAny_loadGlobalName hE.kind (q1.resolve_right fun z=>nomatch z.1) (hg _ _ _ _ _ _ hE.glb hE.blt O.stays (h u _ (hr _ O.base)))) q2
theorem EvR.dss1 {k s:Str} {kk:Nat} {p1:Pos} (G:Gl g T) (hk:okS k=true) (H:EvN g sc e (.str s)):EvR g n sc vs (.Dict [some (.Constant (.str k) kk p1)] [e] p) a (.loc a.length .root) (a++[.dss [(k,s)]]):=fun A env σ hR hE O V Q E h=>by
 have k₁:=push_keeps σ.h { cls:=.type "dict",data:=.dict #[] }
 refine wpAny_Dict_walk (knd:=PySem.strKind g.prog g.w) rfl rfl (fun z=>nomatch z) (Nat.le_of_ble_eq_true rfl) ?_
 refine pairTrees_cons_walk (Calls.Constant_str (H A env (σ.at σ.C _ _) a _ _ hE (O.grow k₁) fun u t r=>pairTrees_nil_walk ?_))
 obtain ⟨tk,rfl,hs⟩:=r.inv_str
 refine ⟨[(k,_)],⟨strKind_is _ _ _ _,rfl,trivial⟩,Heap.DictOf.new (knd:=PySem.strKind g.prog g.w) σ.h,fun h' hd hs'=>?_⟩
 have k₂:∀ x o,σ.h.get? x=some o→h'.get? x=some o:=fun x o e=>same_keeps hs' x o (fun z=>by rw [z,none_of_size] at e;cases e) (k₁ x o e)
 obtain ⟨C₁,O₁,x₁,r₁⟩:=O.new1 (ao:=.dss [(k,s)]) (po:=.dictS [(k,s)]) (none_of_size σ.h) (dict_there (g:=g) hd) k₂ rfl dss_view (fun C' M e=>⟨_,e▸hd,.cons hk hs .nil,e▸G.size O⟩)
 exact h _ (σ.at C₁ _ _) (Nx.at x₁) O₁ r₁
theorem BinR.addL (e1:listOf a x=some xs) (e2:listOf a y=some ys) (hz:Nat.ble (xs.length+ys.length) cap=true) (ho:itemsO o=some (xs++ys)):BinR g .Add x y a (.loc a.length .root) (a++[o]):=fun A σ u w O r r' Q E h=>by
 obtain ⟨l,us,k,rfl,z1,z2,z3⟩:=O.listOf e1 r
 obtain ⟨l',vs,k',rfl,y1,y2,y3⟩:=O.listOf e2 r'
 have hl:=Nat.le_of_ble_eq_true hz
 obtain ⟨C',q1,q2,q3⟩:=O.pushL (k:=0) ho (z2.append y2) (by rw [List.length_append];exact hl)
 refine P.add_list (n:=k) (n2:=k') z1 y1 ?_ ?_
 ·rw [show us.toArray++vs.toArray=(us++vs).toArray by simp]
  exact h _ (σ.at C' _ _) (Nx.at q2) q1 q3
 ·rw [List.size_toArray,List.size_toArray,z2.length,y2.length];exact cap_size hl
theorem mul_pick (us:List Value):(List.foldl (fun x1 x2=>x1++x2) #[] (List.replicate (if us.toArray.isEmpty=true then 0 else (1:Int).toNat) us.toArray):Array Value)=us.toArray:=by
 cases us with
|nil=>rfl
|cons x r=>
  have:(x::r).toArray.isEmpty=false:=by simp
  rw [this]
  simp
theorem mul_new {s:Shared} {l:Addr} {us:List Value} {k:Nat} {i:Int} {u:Tok} {Q:Value→Shared→Prop} {E:Value→Shared→Prop} (hl:s.heap.get? l=some (lstObj us k)) (hi:i=0∨i=1∧us.length≤cap)
  (h:Q (.ref s.heap.objs.size) { s with heap:=s.heap.push { cls:=.type "list",data:=.seq (List.foldl (fun x1 x2=>x1++x2) #[] (List.replicate (if us.toArray.isEmpty=true then 0 else i.toNat) us.toArray)) } }):
  wpAny g.M A (binaryOp .Mult (.ref l) (.int i u)) Q E s:=by
 have hf:Builtin.List.listFitsIndex i=true:=by rcases hi with rfl|⟨rfl,_⟩<;>decide
 have hz:us.toArray.size*i.toNat≤cap:=by
  rcases hi with rfl|⟨rfl,hl⟩
  ·exact Nat.zero_le _
  ·simpa using hl
 have hz':=cap_size hz
 refine wpAny_binaryOp_repeat_ref (T:="list") (U:="int") (by decide) ⟨_,hl,rfl⟩ (fun s'=>typeIs_int s' i u) noFill_list_mul F.fills_int_mul F.slot_int_rmul repeat_list F.slot_int_index.lookup ?_
 refine call_meets F.slot_int_rmul (typeIs_int s i u) F.entry_int_rmul (F.args_int_rmul_2 _ _) (int___rmul___int_list i u l us.toArray k) ⟨hl,rfl,⟨_,hl,rfl⟩,?_⟩
 refine call_meets F.slot_list_mul ⟨_,hl,rfl⟩ F.entry_list_mul (F.args_list_mul_2 _ _) (AutoListH.list___mul___list_int_3 l us.toArray k i u (by rw [hf];decide) ?_ ?_) ⟨hl,h⟩
 ·rw [sizeLine_eq] at hz';omega
 ·rw [sizeLine_eq] at hz';simp [Builtin.List.listTooLong,sizeLine];omega
theorem BinR.mulL {c:Bool} (e1:listOf a x=some xs) (ho:itemsO o=some (bif c then xs else [])):BinR g .Mult x (.nat c.toNat) a (.loc a.length .root) (a++[o]):=fun A σ u w O r r' Q E h=>by
 obtain ⟨l,us,k,rfl,z1,z2,z3⟩:=O.listOf e1 r
 obtain ⟨t,rfl⟩:=r'.inv_int
 cases c with
|true=>
  obtain ⟨C',q1,q2,q3⟩:=O.pushL (k:=0) ho z2 z3
  refine mul_new z1 (.inr ⟨rfl,by rw [z2.length];exact z3⟩) ?_
  rw [show (Int.ofNat true.toNat)=1 from rfl,mul_pick]
  exact h _ (σ.at C' _ _) (Nx.at q2) q1 q3
|false=>
  obtain ⟨C',q1,q2,q3⟩:=O.pushL (k:=0) ho VReps.nil (Nat.zero_le _)
  refine mul_new z1 (.inl rfl) ?_
  rw [show (List.foldl (fun x1 x2=>x1++x2) #[] (List.replicate (if us.toArray.isEmpty=true then 0 else (Int.ofNat false.toNat).toNat) us.toArray):Array Value)=([]:List Value).toArray by simp]
  exact h _ (σ.at C' _ _) (Nx.at q2) q1 q3
theorem filterMap_some {α β:Type} {f:α→Option β} {k:α→β} {l:List α}:(∀ x∈l,f x=some (k x))→l.filterMap f=l.map k:=by
 induction l with
|nil=>exact fun _=>rfl
|cons x l ih=>exact fun h=>by rw [List.filterMap_cons,h x List.mem_cons_self,List.map_cons,ih fun y hy=>h y (List.mem_cons_of_mem _ hy)]
theorem q_rev (n:Nat):sliceRange ((n:Int) - 1) (max (-1) (min 0 ((n:Int) - 1))) (-1)=(List.range (n - 1)).map fun k=>n - 1 - k:=by
 cases n with
|zero=>rfl
|succ m=>
  rw [show ((m+1:Nat):Int) - 1=m from Int.add_sub_cancel (m:Int) 1,Int.min_eq_left (Int.natCast_nonneg m)]
  show sliceRange (m:Int) 0 (-1)=_
  unfold sliceRange
  rw [if_neg (by decide),show (if (m:Int) > 0 then ((m:Int) - 0 - -1 - 1) / (- -1) else 0)=(m:Int) from by
   rw [Int.sub_zero,Int.sub_neg,Int.add_sub_cancel,Int.neg_neg,Int.ediv_one];cases m with|zero=>rfl|succ k=>exact if_pos (Int.ofNat_lt.mpr (Nat.succ_pos k))]
  exact List.map_congr_left fun k _=>by rw [Int.neg_mul,Int.one_mul,← Int.sub_eq_add_neg,Nat.add_sub_cancel,Int.toNat_sub]
theorem q_lt {n k:Nat} (h:k<n - 1):n - 1 - k<n:=
 Nat.lt_of_le_of_lt (Nat.sub_le ..) (Nat.sub_one_lt fun e=>by rw [e] at h;exact Nat.not_lt_zero _ h)
theorem q_l2 {m k:Nat} (h:k<m):m - k=1+(m - 1 - k):=by
 rw [Nat.sub_right_comm,Nat.add_comm,Nat.sub_add_cancel (Nat.sub_pos_of_lt h)]
theorem pick_revFrom (items:Array Value):slicePick items Option.none (some 0) (some (-1))=(items.toList.drop 1).reverse.toArray:=by
 have e:sliceBounds Option.none (some 0) (some (-1)) items.size=((items.size:Int) - 1,max (-1) (min 0 ((items.size:Int) - 1)),-1):=by
  simp [sliceBounds]
 unfold slicePick
 rw [e]
 congr 1
 rw [q_rev,List.filterMap_map,filterMap_some (k:=fun k=>(items[items.size - 1 - k]?).getD .none) fun k hk=>by
   show items[items.size - 1 - k]?=_
   rw [Array.getElem?_eq_getElem (q_lt (List.mem_range.mp hk))];rfl]
 apply List.ext_getElem
 ·rw [List.length_map,List.length_range,List.length_reverse,List.length_drop];rfl
 ·intro k h1 h2
  rw [List.length_map,List.length_range] at h1
  rw [List.getElem_map,List.getElem_range,List.getElem_reverse,List.getElem_drop,Array.getElem?_eq_getElem (q_lt h1),Option.getD_some,Array.getElem_toList]
  congr 1
  rw [List.length_drop,Array.length_toList]
  exact q_l2 h1
theorem EvR.revFrom {k k0:Nat} {q p0 p2 p3:Pos} {o:AObj} (H:EvR g n sc vs l a x a') (e:listOf a' x=some xs) (ho:itemsO o=some (xs.drop 1).reverse):EvR g n sc vs (.Subscript l (.Slice Option.none (some (.Constant (.int 0) k0 p0)) (some (.UnaryOp .USub (.Constant (.int 1) k p3) p2)) q) p) a (.loc a'.length .root) (a'++[o]):=fun A env σ hR hE O V Q E h=>
 Subscript_ (H A env σ hR hE O V _ E fun u σ₁ x₁ O₁ r₁=>wpAny_Slice (wpAny_evalPart_none (wpAny_evalPart_some (wpAny_Constant_int (wpAny_evalPart_some (UnaryOp_ (wpAny_Constant_int (P.neg_int
  (slice_new (σ:=σ₁.tok (σ₁.s.toks+1+1+1)) (slice:=.Slice Option.none (some (.Constant (.int 0) k0 p0)) (some (.UnaryOp .USub (.Constant (.int 1) k p3) p2)) q) O₁ e r₁ ho .none (.int _ _) (.int _ _) (by decide) (fun us ru=>⟨_,pick_revFrom _,by simpa using ru.drop1.rev⟩) (fun i=>⟨_,rfl⟩) fun u σ₂ x₂=>h u σ₂ ((x₁.trans Nx.tok).trans x₂))))))))))
theorem slice_sub (x:Str) (i j:Nat) (hi:i≤j) (hj:j≤x.cps.toList.length):Txt.slice x (some (i:Int)) (some (j:Int))=subst x i j:=by
 have hl:x.length=x.cps.toList.length:=by simp [Str.length]
 have e:Builtin.Str.strSliceIndices (some (i:Int)) (some (j:Int)) 1 x.length=(List.range (j - i)).map (i+·):=by
  unfold Builtin.Str.strSliceIndices
  have h1:¬ ((i:Int)<0):=Int.not_lt.mpr (Int.natCast_nonneg i)
  have h2:¬ ((j:Int)<0):=Int.not_lt.mpr (Int.natCast_nonneg j)
  simp only [h1,h2,if_false,show (1:Int) > 0 by decide,if_true]
  rw [← hl] at hj
  rw [Int.min_eq_left (Int.ofNat_le.mpr (Nat.le_trans hi hj)),Int.min_eq_left (Int.ofNat_le.mpr hj),Int.max_eq_right (Int.natCast_nonneg _),Int.max_eq_right (Int.natCast_nonneg _)]
  exact sliceRange_one i j
 unfold Txt.slice
 rw [e]
 unfold subst
 split
 ·rename_i q
  simp at q
  clear e
  have h0:i=0:=by omega
  have h1:j=x.cps.toList.length:=by omega
  subst h0 h1
  cases x
  rename_i cps
  show (⟨cps⟩:Str)=⟨(List.take (cps.toList.length - 0) cps.toList).toArray⟩
  rw [List.take_of_length_le (by simp)]
 ·rw [pick_run]
theorem okS_subst {x:Str} {i j:Nat} (h:okS x=true):okS (subst x i j)=true:=by
 unfold okS at h ⊢
 rw [Bool.and_eq_true] at h ⊢
 unfold subst
 refine ⟨List.all_eq_true.mpr fun c hc=>?_,Nat.ble_eq_true_of_le ?_⟩
 ·exact List.all_eq_true.mp h.1 c (List.mem_of_mem_drop (List.mem_of_mem_take (by simpa using hc)))
 ·exact Nat.le_trans (List.length_take_le' _ (x.cps.toList.drop i)) (Nat.le_trans (by rw [List.length_drop,Array.length_toList];exact Nat.sub_le ..) (Nat.le_of_ble_eq_true h.2))
theorem EvR.part {q:Pos} {s:Str} {i j:Nat} {e1 e2:Expr} (H:EvR g n sc vs l a (.str s) a₁) (K:EvR g n sc vs e1 a₁ (.nat i) a₂) (L:EvR g n sc vs e2 a₂ (.nat j) a') (hi:Nat.ble i j=true) (hj:Nat.ble j s.cps.toList.length=true):
  EvR g n sc vs (.Subscript l (.Slice (some e1) (some e2) Option.none q) p) a (.str (subst s i j)) a':=fun A env σ hR hE O V Q E h=>
 Subscript_ (H A env σ hR hE O V _ E fun u σ₁ x₁ O₁ r₁=>wpAny_Slice (wpAny_evalPart_some (K A env σ₁ hR hE O₁ (V.ext x₁) _ E fun w σ₂ x₂ O₂ r₂=>wpAny_evalPart_some (L A env σ₂ hR hE O₂ (V.ext (x₁.trans x₂)) _ E fun w' σ₃ x₃ O₃ r₃=>wpAny_evalPart_none (by
  obtain ⟨tx,rfl,hx⟩:=r₁.inv_str
  obtain ⟨ti,rfl⟩:=r₂.inv_int
  obtain ⟨tj,rfl⟩:=r₃.inv_int
  have x₁₃:=(x₁.trans x₂).trans x₃
  obtain ⟨T,id,i1,i2,i3⟩:=SBH.sliceItem_ss (prog:=g.prog) (w:=g.w) (A:=A) (E:=E) (s:=σ₃.s) (x:=s) (t:=tx) (P:=fun h=>∀ y o,σ₃.h.get? y=some o→h.get? y=some o) (Q:=Q) (i:=(i:Int)) (j:=(j:Int)) (ui:=ti) (uj:=tj) (fun h o k y o' e=>Heap.get?_push_of_some _ (k y o' e)) (fun _ _ e=>e)
   (fun h' t' k K=>by
    rw [slice_sub s i j (Nat.le_of_ble_eq_true hi) (Nat.le_of_ble_eq_true hj)]
    exact h _ (σ₃.at σ₃.C h' k) (x₁₃.trans (Nx.push K)) (O₃.grow K) (.str _ _ (okS_subst hx))) (okS_len hx)
  exact tail_any i2 i1 i3 rfl)))))
end
section
variable {g:Cx} {T:Tabs} {D D':Nat→Prop} {C C' C₀ C₁:Cfg} {h h' h₀ h₁:Heap} {a a' a₀ a₁ a₂ a₃:Hp} {n m:Nat} {σ σ':St} {sc:Scope} {vs vs' vs₁ vs₂:Vars} {A:Around} {env:Env} {b c:Bool} {v u x y z:AV} {e f t l r:Expr} {p pos:Pos} {xs ys:List AV} {o:AObj}
theorem Ext.own1 {L:Addr} (hL:C.own L=some .lcl) (k:∀ y o,y≠L→h.get? y=some o→h'.get? y=some o) (l:∃ o,h'.get? L=some o):Ext D false C h C h' where
 rho:=fun _ _ _ e=>⟨e,rfl⟩
 fz:=fun _ _ e=>e
 keep:=fun x o e m q=>k x o (fun z=>q.elim (fun q=>nomatch q) fun q=>q (z▸hL▸trivial)) e
 live:=fun x o e=>by
  by_cases z:x=L
  ·subst z;exact l
  ·exact ⟨o,k x o z e⟩
 free:=fun _ _ _ e=>e
 lcl:=fun _ e=>e
 prv:=fun _ e=>e
 fzn:=fun _ _ e=>.inl e
 lcln:=fun _ e=>.inl e
def RunA (g:Cx) (A:Around) (env:Env) (σ:St) (m:Sem Unit) (vs':Vars) (a':Hp):Prop:=
 ∀ (Q:Unit→Shared→Prop) (E:Value→Shared→Prop),(∀ σ',Nx All false σ σ'→Ok g σ'.C σ'.h a'→VR g σ' env vs'→Q () σ'.s)→wpAny g.M A m Q E σ.s
def StN (sc:Scope) (x:Str):Prop:=look x sc.names=some .local∨look x sc.names=some .cell
theorem RunA.name (hE:EnvOk env sc) (O:Ok g σ.C σ.h a) (V:VR g σ env vs) {x:Str} {w:Value} (hk:StN sc x) (hu:VRep σ.C v w):RunA g A env σ (storeName env x w) (setL x v vs) a:=by
 intro Q E h
 have fin:∀ L h' t,σ.C.own L=some .lcl→(∀ y o,y≠L→σ.h.get? y=some o→h'.get? y=some o)→(∃ o,h'.get? L=some o)→VR g (σ.at σ.C h' t) env (setL x v vs)→Q () (σ.at σ.C h' t).s:=fun L h' t hL k l V'=>
  h (σ.at σ.C h' t) (Nx.at (.own1 hL k l)) (O.poke (I:=fun y=>y=L) (fun y hy=>.inl (hy▸hL)) k fun y hy=>hy▸l) V'
 obtain ⟨m,F,hm⟩:=V.fr
 rcases hk with hk|hk
 ·have hkind:env.kindOf x=some .local:=(hE.nm x _ hk).1.resolve_right fun z=>nomatch z.1
  refine wpAny_storeName_local hkind F (fun h' hn hs=>?_) (by rw [hE.kind];rfl)
  have kp:=same_keeps hs
  refine fin env.locals h' _ V.own kp (by obtain ⟨o,_,_,ho,_⟩:=hn;exact ⟨o,ho⟩) ⟨⟨_,hn,fun y v' e1 e2=>?_⟩,V.own,fun y c e1=>?_,V.inj⟩
  ·rw [look_setL] at e1
   by_cases hy:y=x
   ·rw [if_pos hy] at e1 ⊢;exact ⟨w,rfl,Option.some.inj e1▸hu⟩
   ·rw [if_neg hy] at e1 ⊢;exact hm y v' e1 e2
  ·obtain ⟨q1,q2,q3,v0,⟨o,ho,hd⟩,q4⟩:=V.cells y c e1
   refine ⟨q1,q2,q3,v0,⟨o,kp c o q2 ho,hd⟩,fun v' e2 e3=>?_⟩
   rw [look_setL] at e2
   by_cases hy:y=x
   ·rw [hy,hkind] at e3;exact e3.elim (fun z=>nomatch z) fun z=>nomatch z
   ·rw [if_neg hy] at e2;exact q4 v' e2 e3
 ·have hkind:env.kindOf x=some .cell:=(hE.nm x _ hk).1.resolve_right fun z=>nomatch z.1
  obtain ⟨c,hc⟩:=hE.cell x (.inl hkind)
  obtain ⟨q1,q2,q3,v0,hcell,q4⟩:=V.cells x c hc
  refine wpAny_storeName_cell hE.kind hkind hc hcell fun h' hn hs=>?_
  have kp:=same_keeps hs
  refine fin c h' σ.s.toks q1 kp (by obtain ⟨o,ho,_⟩:=hn;exact ⟨o,ho⟩) ⟨⟨m,F.at fun o ho=>kp _ o (fun z=>q2 z.symm) ho,fun y v' e1 e2=>?_⟩,V.own,fun y c' e1=>?_,V.inj⟩
  ·rw [look_setL] at e1
   by_cases hy:y=x
   ·rw [hy,hkind] at e2;cases e2
   ·rw [if_neg hy] at e1;exact hm y v' e1 e2
  ·obtain ⟨z1,z2,z3,v1,⟨o,ho,hd⟩,z4⟩:=V.cells y c' e1
   by_cases hy:y=x
   ·obtain rfl:=Option.some.inj ((hy▸e1).symm.trans hc)
    refine ⟨z1,z2,z3,some w,hn,fun v' e2 _=>?_⟩
    rw [look_setL,if_pos hy] at e2
    exact ⟨w,rfl,Option.some.inj e2▸hu⟩
   ·refine ⟨z1,z2,z3,v1,⟨o,kp c' o (fun z=>hy (V.inj _ _ _ (z▸e1) hc)) ho,hd⟩,fun v' e2 e3=>?_⟩
    rw [look_setL,if_neg hy] at e2;exact z4 v' e2 e3
def AsR (g:Cx) (n:Nat) (sc:Scope) (tgt:Expr) (v:AV) (vs:Vars) (a:Hp) (vs':Vars) (a':Hp):Prop:=∀ A env σ w,Room n A→EnvOk env sc→Ok g σ.C σ.h a→VR g σ env vs→VRep σ.C v w→RunA g A env σ (assign tgt env w) vs' a'
def AssR (g:Cx) (n:Nat) (sc:Scope) (ts:List Expr) (xs:List AV) (vs:Vars) (a:Hp) (vs':Vars) (a':Hp):Prop:=(∀ env,(assignEach ts env).findIdx? (·.1)=none∧(assignEach ts env).length=xs.length) ∧
 ∀ A env σ us,Room n A→EnvOk env sc→Ok g σ.C σ.h a→VR g σ env vs→VReps σ.C xs us→RunA g A env σ (assignInOrder ((assignEach ts env).map (·.2)) us) vs' a'
theorem Nx.wD (x:Nx All true σ σ'):Nx D b σ σ':=x.weak fun _ _=>trivial
theorem AsR.name {k:Str} (hk:StN sc k):AsR g n sc (.Name k p) v vs a (setL k v vs) a:=fun _ _ _ _ _ hE O V r _ E h=>wpAny_assign_Name (RunA.name hE O V hk r _ E h)
theorem AsR.attr {name:Str} {m:Nat} {q:Part} (H:EvR g n sc vs l a (.loc m q) a₁) (P:PutR g a₁ m q name v a'):AsR g n sc (.Attribute l name p) v vs a vs a':=fun A env σ w hR hE O V r Q E h=>by
 show wpAny _ A (do
  let ov ← holding [w] (eval l env)
  standAt p.atName
  holding [w,ov] (setAttr ov name w)
  release [w,ov] []) Q E σ.s
 refine wpAny_bind (wpAny_holding (H A env σ hR hE O V _ E fun ov σ₁ x₁ O₁ r₁=>?_))
 obtain ⟨rfl,_⟩:=r₁.inv_loc
 refine wpAny_bind (wpAny_standAt (wpAny_bind (wpAny_holding (P _ σ₁ w O₁ (r.mono x₁.more) _ _ fun _ σ₂ x₂ O₂ _=>wpAny_release' ?_))))
 exact h σ₂ (x₁.trans x₂).wD O₂ (V.ext (x₁.trans x₂))
theorem AsR.sub (H:EvR g n sc vs l a x a₁) (K:EvR g n sc vs r a₁ y a₂) (P:SetR g a₂ x y v a'):AsR g n sc (.Subscript l r p) v vs a vs a':=fun A env σ w hR hE O V rv Q E h=>by
 rw [assign_Subscript]
 refine wpAny_bind (wpAny_holding (H A env σ hR hE O V _ E fun ov σ₁ x₁ O₁ r₁=>?_))
 refine wpAny_bind (wpAny_holding (K A env σ₁ hR hE O₁ (V.ext x₁) _ E fun iv σ₂ x₂ O₂ r₂=>?_))
 have x₁₂:=x₁.trans x₂
 refine wpAny_bind (wpAny_standAt (wpAny_bind (wpAny_holding (P _ σ₂ ov iv w O₂ (r₁.mono x₂.more) r₂ (rv.mono x₁₂.more) _ _ fun _ σ₃ x₃ O₃ _=>wpAny_release' ?_))))
 exact h σ₃ (x₁₂.trans x₃).wD O₃ (V.ext (x₁₂.trans x₃))
theorem AssR.nil:AssR g n sc [] [] vs a vs a:=⟨fun _=>⟨rfl,rfl⟩,fun _ _ σ us _ _ O V _ _ _ h=>wpAny_pure (h σ .refl O V)⟩
theorem assignEach_cons {es:List Expr} (hs:noStar e=true):assignEach (e::es) env=(false,assign e env)::assignEach es env:=by
 cases e<;>first|rfl|cases hs
theorem AssR.cons {ts:List Expr} (hs:noStar t=true) (H:AsR g n sc t v vs a vs₁ a₁) (K:AssR g n sc ts xs vs₁ a₁ vs' a'):AssR g n sc (t::ts) (v::xs) vs a vs' a':=by
 refine ⟨fun env=>?_,fun A env σ us hR hE O V r Q E h=>?_⟩
 ·rw [assignEach_cons hs,List.findIdx?_cons,(K.1 env).1,List.length_cons,(K.1 env).2]
  exact ⟨rfl,rfl⟩
 ·cases r with|cons r1 r=>
  rename_i u us
  rw [assignEach_cons hs]
  show wpAny _ _ (do holding us (assign t env u);assignInOrder ((assignEach ts env).map (·.2)) us) _ _ _
  exact wpAny_bind (wpAny_holding (H _ env σ u hR hE O V r1 _ _ fun σ₁ x₁ O₁ V₁=>K.2 A env σ₁ us hR hE O₁ V₁ (r.mono x₁.ext.more) Q E fun σ₂ x₂=>h σ₂ (x₁.trans x₂)))
theorem Nx.toD (x:Nx All false σ σ'):Nx D false σ σ':=⟨{ x.ext with rho:=fun n p _=>x.ext.rho n p trivial },x.same⟩
theorem draw_list {it l:Addr} {items:Array Value} (hne:l≠it) {E:Value→Shared→Prop} (n:Nat):∀ (i:Nat) (s:Shared) (Q:List Value→Shared→Prop),s.heap.IsListIter it l i→s.heap.IsList l items→i+n≤items.size →
  (∀ h',h'.IsListIter it l (i+n)→Heap.SameBut it s.heap h'→Q ((items.toList.drop i).take n) { s with heap:=h' })→wpAny g.M A (draw (.ref it) n) Q E s:=by
 induction n with
|zero=>exact fun i s Q hit _ _ hQ=>wpAny_pure (by simpa using hQ s.heap hit (Heap.SameBut.refl ..))
|succ n ih=>
  intro i s Q hit ht hle hQ
  have hlt:i<items.size:=by omega
  show wpAny _ _ (pyNext (.ref it)>>=_) Q E s
  refine wpAny_bind (wpAny_pyNext_list_item hit ht (x:=items[i]) (by simp [hlt]) fun h₁ hit₁ hs₁=>?_)
  refine wpAny_bind (wpAny_holding (ih (i+1) _ _ hit₁ (ht.extBut hs₁.extBut hne) (by omega) fun h₂ hit₂ hs₂=>wpAny_pure ?_))
  have hd:items.toList.drop i=items[i]::items.toList.drop (i+1):=by simp [List.drop_eq_getElem_cons,hlt]
  have:=hQ h₂ (by rw [show i+(n+1)=i+1+n by omega];exact hit₂) (hs₁.trans hs₂)
  rw [hd,List.take_succ_cons] at this
  exact this
theorem unpackItems_list {s:Shared} {t:Addr} {items:Array Value} {Q:List Value→Shared→Prop} {E:Value→Shared→Prop} (hh:A.handled=none) (ht:s.heap.IsList t items)
  (hQ:∀ h',Heap.ExtBut s.heap.objs.size s.heap h'→Q items.toList { s with heap:=h' }):wpAny g.M A (unpackItems (.ref t) items.size none) Q E s:=by
 have hlt:t≠s.heap.objs.size:=by obtain ⟨o,ho,_⟩:=ht;exact Nat.ne_of_lt (Heap.lt_size ho)
 unfold unpackItems
 refine wpAny_bind ?_
 unfold notIterableAtAll
 refine wpAny_bind (wpAny_specialOf ht.typeIs slot_list_iter.lookup ?_)
 refine wpAny_pure ?_
 simp only [Bool.false_eq_true,if_false]
 refine wpAny_bind (wpAny_holding (wpAny_pyIter_list ht ?_))
 refine wpAny_bind (wpAny_holding (draw_list hlt items.size 0 _ _ ⟨_,Heap.get?_push_size _ rfl,rfl,rfl⟩ (ht.push _) (by omega) fun h₁ hit₁ hs₁=>?_))
 have hall:List.take items.size (List.drop 0 items.toList)=items.toList:=by
  rw [List.drop_zero];exact List.take_of_length_le (by simp)
 rw [hall]
 rw [if_neg (by simp)]
 have ht₁:h₁.IsList t items:=(ht.push _).extBut hs₁.extBut hlt
 refine wpAny_bind (wpAny_holding (wpAny_pyNext_list_end hh hit₁ ht₁ (by simp) fun h₂ he₂=>?_))
 simp only [Option.isSome_none,Bool.false_eq_true,if_false]
 exact wpAny_pure (hQ h₂ fun b o hb e=>he₂ b o hb (hs₁.extBut b o hb (Heap.get?_push_of_some _ e)))
noncomputable def seqOf (a:Hp):AV→Option (List AV)
|.tup xs=>some xs
|v=>listOf a v
theorem Run.unpack (hR:Room n A) (O:Ok g σ.C σ.h a) {u:Value} (e:seqOf a v=some xs) (r:VRep σ.C v u):Run g A σ (unpackItems u xs.length none) (fun C us=>VReps C xs us) a:=fun Q E h=>by
 have kp:∀ us h',VReps σ.C xs us→Heap.ExtBut σ.h.objs.size σ.h h'→Q us { σ.s with heap:=h' }:=fun us h' r he=>have k:∀ y o,σ.h.get? y=some o→h'.get? y=some o:=fun y o e=>he y o (Nat.ne_of_lt (Heap.lt_size e)) e
  h us (σ.at σ.C h' σ.s.toks) (Nx.push k) (O.grow k) r
 have lists:listOf a v=some xs→wpAny g.M A (unpackItems u xs.length none) Q E σ.s:=fun e=>by
  obtain ⟨l,us,k,rfl,z1,z2,_⟩:=O.listOf e r
  rw [show xs.length=us.toArray.size by rw [List.size_toArray,z2.length]]
  exact unpackItems_list hR.handled ⟨_,z1,rfl,_,rfl⟩ fun h' he=>kp us h' z2 he
 cases v with
|tup ys=>
  obtain rfl:=Option.some.inj e
  obtain ⟨b,us,kk,rfl,hf,rs,hl⟩:=r.inv_tup
  rw [show ys.length=us.toArray.size by rw [List.size_toArray,rs.length]]
  exact wpAny_unpackItems_tuple hR.handled ⟨_,O.fzh _ _ hf,rfl,_,rfl⟩ fun h' he=>kp us h' rs he
|_=>exact lists e
theorem AsR.tup {ts:List Expr} {k:Nat} (e:seqOf a v=some xs) (H:AssR g n sc ts xs vs a vs' a'):AsR g n sc (.Tuple ts k p) v vs a vs' a':=fun A env σ w hR hE O V r Q E h=>by
 rw [arm_assign_Tuple]
 refine wpAny_bind (wpAny_standAt ?_)
 unfold unpack
 rw [(H.1 env).1,(H.1 env).2]
 exact wpAny_bind (wpAny_holding (Run.unpack hR O e r _ _ fun us σ₁ x₁ O₁ r₁=>H.2 A env σ₁ us hR hE O₁ (V.ext x₁) r₁ Q E fun σ₂ x₂=>h σ₂ (x₁.wD.trans x₂)))
noncomputable def isAttr:Expr→Bool
|.Attribute ..=>true
|_=>false
theorem filterMap_lt {α:Type} {f:Expr→Option α} (hf:∀ e,isAttr e=true→f e=none) {ts:List Expr}:ts.any isAttr=true→(ts.filterMap f).length≠ts.length:=by
 have le:∀ ts:List Expr,(ts.filterMap f).length≤ts.length:=fun ts=>List.length_filterMap_le f ts
 induction ts with
|nil=>exact fun h=>nomatch h
|cons t ts ih=>
  intro h
  rw [List.filterMap_cons]
  cases q:f t with
 |none=>exact Nat.ne_of_lt (Nat.lt_succ_of_le (le ts))
 |some x=>
   refine fun z=>ih ?_ (Nat.succ.inj z)
   rw [List.any_cons] at h
   cases q':isAttr t with
  |true=>rw [hf t q'] at q;cases q
  |false=>rwa [q',Bool.false_or] at h
noncomputable def inOrder (tgt e:Expr):Bool:=match tgt with
|.Tuple ts _ _=>(match e with
 |.Tuple _ _ _=>ts.any isAttr
 |_=>true)
|.List _ _=>false
|_=>true
theorem inOrder_of (h:inOrder t e=true):swappedStores [t] e env=pure none:=by
 cases t with
|Tuple ts k p=>
  cases e with
 |Tuple es k' p'=>
   unfold swappedStores
   dsimp only
   split
   ·rfl
   ·split
    ·rfl
    ·split
     ·rfl
     ·rename_i q
      rw [Bool.or_eq_true,not_or] at q
      exact absurd (bne_eq_false_iff_eq.mp (Bool.eq_false_iff.mpr q.1)) (filterMap_lt (fun e he=>by cases e<;>first|rfl|cases he) h)
 |_=>rfl
|List=>cases h
|_=>rfl
noncomputable def noComp:Expr→Bool
|.ListComp ..=>false
|.SetComp ..=>false
|.DictComp ..=>false
|_=>true
theorem noComp_of {o:Option Expr} {k:Nat} (h:noComp e=true):swapsWith e o k env=pure false:=by
 cases e<;>first|rfl|cases h
theorem SR.asg (hc:∀ env,swapsWith e (some t) pos.line env=pure false) (ht:(inOrder t e&&noStar t)=true) (H:EvR g n sc vs e a v a₁) (K:AsR g n sc t v vs a₁ vs' a'):SR g n D sc vs (.Assign [t] e pos) a .next vs' a':=fun A env σ hR hE O V Q E h=>by
 rw [Bool.and_eq_true] at ht
 rw [PyProof.Rows.exec_Assign]
 refine wpAny_bind (wpAny_standAt ?_)
 rw [show swapsWithSole [t] e pos.line env=pure false from hc env]
 refine wpAny_bind (wpAny_pure ?_)
 rw [if_neg Bool.false_ne_true]
 refine wpAny_bind (H A env σ hR hE O V _ E fun u σ₁ x₁ O₁ r₁=>?_)
 rw [inOrder_of ht.1]
 refine wpAny_bind (wpAny_pure ?_)
 unfold assignStores
 rw [show (assignEach [t] env).map (·.2)=[assign t env] by rw [assignEach_cons ht.2];rfl]
 exact wpAny_bind (K A env σ₁ u hR hE O₁ (V.ext x₁) r₁ _ E fun σ₂ x₂ O₂ V₂=>wpAny_pure (h .next σ₂ .next (x₁.wD.trans x₂.toD) O₂ V₂))
theorem swapped2 {k k2:Nat} {p1 p2 p3:Pos} {q q':Str} {es:List Expr} (hc:es.all (constantsAlone 8)=false):swappedStores [.Tuple [.Name q p1,.Name q' p3] k p] (.Tuple es k2 p2) env=pure none∨swappedStores [.Tuple [.Name q p1,.Name q' p3] k p] (.Tuple es k2 p2) env=pure (some [q,q']):=by
 unfold swappedStores
 dsimp only
 split
 ·exact .inl rfl
 ·split
  ·exact .inl rfl
  ·split
   ·exact .inl rfl
   ·rename_i z
    split
    ·exact .inl rfl
    ·rw [hc]
     rw [Bool.or_eq_true,not_or] at z
     have z:=z.1
     rw [List.filterMap_cons,List.filterMap_cons,List.filterMap_nil] at z ⊢
     dsimp only at z ⊢
     refine .inr ?_
     generalize (env.kindOf q==some NameKind.local&&p1.line==(Option.map (fun x=>x.pos.line) [Expr.Name q p1,Expr.Name q' p3].head?).getD 0)=c1 at z ⊢
     generalize (env.kindOf q'==some NameKind.local&&p3.line==(Option.map (fun x=>x.pos.line) [Expr.Name q p1,Expr.Name q' p3].head?).getD 0)=c2 at z ⊢
     cases c1<;>cases c2<;>first|exact absurd rfl z|rfl
theorem VR.congr (V:VR g σ env vs) (e:∀ x,look x vs'=look x vs):VR g σ env vs':=V.map (fun _ _ e z=>⟨e,z⟩) fun x v' h=>⟨v',(e x).symm.trans h,fun _ r=>r⟩
theorem SR.asg2 {k k2:Nat} {p1 p2 p3:Pos} {q q':Str} {es:List Expr} (hc:es.all (constantsAlone 8)=false) (hq:strB q q'=false) (h1:StN sc q) (h2:StN sc q') (H:EvR g n sc vs (.Tuple es k2 p2) a (.tup [x,y]) a'):
  SR g n D sc vs (.Assign [.Tuple [.Name q p1,.Name q' p3] k p] (.Tuple es k2 p2) pos) a .next (setL q' y (setL q x vs)) a':=fun A env σ hR hE O V Q E h=>by
 rw [PyProof.Rows.exec_Assign]
 refine wpAny_bind (wpAny_standAt ?_)
 rw [show swapsWithSole [.Tuple [.Name q p1,.Name q' p3] k p] (.Tuple es k2 p2) pos.line env=pure false from rfl]
 refine wpAny_bind (wpAny_pure ?_)
 rw [if_neg Bool.false_ne_true]
 refine wpAny_bind (H A env σ hR hE O V _ E fun u σ₁ x₁ O₁ r₁=>?_)
 have V₁:=V.ext x₁
 rcases swapped2 (env:=env) (p:=p) (k:=k) (k2:=k2) (p1:=p1) (p2:=p2) (p3:=p3) (q:=q) (q':=q') hc with z|z
 ·rw [z]
  refine wpAny_bind (wpAny_pure ?_)
  unfold assignStores
  exact wpAny_bind (AsR.tup (p:=p) (k:=k) rfl (.cons rfl (.name (p:=p1) h1) (.cons rfl (.name (p:=p3) h2) .nil)) A env σ₁ u hR hE O₁ V₁ r₁ _ E fun σ₂ x₂ O₂ V₂=>wpAny_pure (h .next σ₂ .next (x₁.wD.trans x₂.toD) O₂ V₂))
 ·rw [z]
  refine wpAny_bind (wpAny_pure ?_)
  unfold assignStores
  refine wpAny_bind (wpAny_rule (wpAny_bind (Run.unpack (xs:=[x,y]) hR O₁ rfl r₁ _ _ fun us σ₂ x₂ O₂ r₂=>?_)))
  obtain ⟨u,w,rfl,ru,rw'⟩:=r₂.two
  have x₁₂:=x₁.trans x₂
  show wpAny _ _ (do (do holding [u] (bindName env q' w);(do holding [] (bindName env q u);pure ()));pure .next) Q E σ₂.s
  refine wpAny_bind (wpAny_bind (wpAny_holding (wpAny_bindName (RunA.name hE O₂ (V.ext x₁₂) h2 rw' _ _ fun σ₃ x₃ O₃ V₃=>?_))))
  refine wpAny_bind (wpAny_holding (wpAny_bindName (RunA.name hE O₃ V₃ h1 (ru.mono x₃.ext.more) _ _ fun σ₄ x₄ O₄ V₄=>wpAny_pure (wpAny_pure (h .next σ₄ .next ((x₁₂.wD.trans x₃.toD).trans x₄.toD) O₄ (V₄.congr fun w=>?_))))))
  rw [look_setL,look_setL,look_setL,look_setL]
  by_cases z1:w=q'
  ·by_cases z2:w=q
   ·rw [← z1,← z2,strB_self] at hq;cases hq
   ·rw [if_pos z1,if_neg z2,if_pos z1]
  ·rw [if_neg z1,if_neg z1]
end
inductive Src
|rng (lo:Nat) (n:Nat)
|lst (v:AV)
|enum (v:AV)
|zip (v w:AV)
|txt (s:Str)
noncomputable def srcAt (a:Hp) (i:Nat):Src→Option (Option AV)
|.rng lo n=>some (bif Nat.blt i n then some (.nat (lo+i)) else none)
|.lst v=>(listOf a v).map fun xs=>xs[i]?
|.enum v=>(listOf a v).map fun xs=>(xs[i]?).map fun x=>.tup [.nat i,x]
|.zip v w=>(listOf a v).bind fun xs=>(listOf a w).map fun ys=>(xs[i]?).bind fun x=>(ys[i]?).map fun y=>.tup [x,y]
|.txt s=>some ((s.cps[i]?).map fun c=>.str ⟨#[c]⟩)
noncomputable def needsTup:Src→Bool
|.rng _ _=>false
|.lst _=>false
|.txt _=>false
|_=>true
noncomputable def asTup (e:Expr):Option {q:List Expr // ∃ c p,e=.Tuple q c p}:=match e with
|.Tuple es c p=>some ⟨es,c,p,rfl⟩
|_=>none
noncomputable def isTupT (e:Expr):Bool:=(asTup e).isSome
structure Step (g:Cx) (I:Addr→Prop) (σ σ':St) (a:Hp):Prop where
 ok:Ok g σ'.C σ'.h a
 own:∀ y,σ'.C.own y=σ.C.own y
 keep:∀ y o,¬ I y→σ.h.get? y=some o→σ'.h.get? y=some o
 more:More σ.C σ'.C
 fzn:∀ y o,σ'.C.fz y=some o→σ.C.fz y=some o∨σ.h.get? y=none
 same:σ'.s={ σ.s with heap:=σ'.s.heap,toks:=σ'.s.toks }
def PrvI (C:Cfg) (I:Addr→Prop):Prop:=∀ y,I y→C.own y=some .prv
section
variable {g:Cx} {T:Tabs} {D D':Nat→Prop} {C C' C₀ C₁:Cfg} {h h' h₀ h₁:Heap} {a a' a₀ a₁ a₂ a₃:Hp} {n m i:Nat} {σ σ' σ₀ σ₁:St} {sc:Scope} {vs vs' vs₁ vs₂:Vars} {A:Around} {env:Env} {b c:Bool} {v u x y z:AV} {e f t l r tgt:Expr} {p pos:Pos} {xs ys:List AV} {I:Addr→Prop} {it:Addr} {src:Src}
theorem PrvI.lp (h:PrvI C I):OwnLP C I:=fun y hy=>.inr (h y hy)
theorem PrvI.lcl (h:PrvI C I):∀ y,C.own y=some .lcl→¬ I y:=fun y e q=>nomatch e.symm.trans (h y q)
theorem Step.nx (S:Step g I σ σ' a) (x:Nx D b σ₀ σ) (hI:NotIn σ₀.C σ₀.h I):Nx D b σ₀ σ':=by
 have X:=x.ext
 refine ⟨⟨fun m p d e=>?_,fun y o e=>S.more.fz y o (X.fz y o e),fun y o e m l=>S.keep y o (hI.hp y o e) (X.keep y o e m l),fun y o e=>by obtain ⟨o',z⟩:=X.live y o e;exact ⟨o',S.keep y o' (hI.hp y o e) z⟩,fun y o e q=>(S.own y).trans (X.free y o e q),fun y q=>(S.own y).trans (X.lcl y q),fun y q=>(S.own y).trans (X.prv y q),fun y o e=>?_,fun y q=>X.lcln y ((S.own y).symm.trans q)⟩,by rw [S.same,x.same]⟩
 ·obtain ⟨z1,z2⟩:=X.rho m p d e
  obtain ⟨y1,y2⟩:=S.more.rho m p z1
  exact ⟨y1,y2.trans z2⟩
 ·refine (S.fzn y o e).elim (X.fzn y o) fun z=>.inr (.inr ?_)
  cases q:σ₀.h.get? y with
 |none=>rfl
 |some o'=>obtain ⟨o'',q'⟩:=X.live y o' q;exact nomatch z.symm.trans q'
theorem Step.vr (S:Step g I σ σ' a) (hI:PrvI σ.C I) (V:VR g σ env vs):VR g σ' env vs:=
 V.map (fun y o e z=>⟨(S.own y).trans e,S.keep y o (hI.lcl y e) z⟩) fun x v e=>⟨v,e,fun _ r=>r.mono S.more⟩
theorem Step.prv (S:Step g I σ σ' a) (hI:PrvI σ.C I):PrvI σ'.C I:=fun y hy=>(S.own y).trans (hI y hy)
theorem Step.poke (O:Ok g σ.C σ.h a) (hI:PrvI σ.C I) {t:Nat} (k:∀ y o,¬ I y→σ.h.get? y=some o→h'.get? y=some o) (l:∀ y,I y→∃ o,h'.get? y=some o):Step g I σ (σ.at σ.C h' t) a:=
 ⟨O.poke hI.lp k l,fun _=>rfl,k,⟨fun _ _ e=>⟨e,rfl⟩,fun _ _ e=>e⟩,fun _ _ e=>.inl e,rfl⟩
theorem Step.tup (O:Ok g σ.C σ.h a) (hI:PrvI σ.C I) {t:Nat} (kp:∀ y o,¬ I y→σ.h.get? y=some o→h'.get? y=some o) (lv:∀ y,I y→∃ o,h'.get? y=some o) {us:List Value}
  (hx':h'.get? σ.h.objs.size=some (tupObj us 0)) (r:VReps σ.C xs us) (hl:xs.length≤cap):∃ C',Step g I σ (σ.at C' h' t) a∧VRep C' (.tup xs) (.ref σ.h.objs.size):=by
 have hx:=none_of_size σ.h
 have O':=O.poke hI.lp kp lv
 have fz:=O.fz_none hx
 have M:More σ.C (σ.C.freeze σ.h.objs.size (tupObj us 0)):=⟨fun _ _ e=>⟨e,rfl⟩,fun y o' e=>(if_neg fun z=>nomatch (z▸e).symm.trans fz).trans e⟩
 refine ⟨σ.C.freeze σ.h.objs.size (tupObj us 0),⟨(O'.freezeG (O.own_none hx) fz hx').1,fun _=>rfl,kp,M,fun y o' e=>?_,rfl⟩,.tup (if_pos rfl) (r.mono M) hl⟩
 by_cases hy:y=σ.h.objs.size
 ·exact .inr (hy▸hx)
 ·exact .inl ((if_neg hy).symm.trans e)
noncomputable def ItAt (C:Cfg) (h:Heap) (it:Addr) (I:Addr→Prop) (i:Nat):Src→Prop
|.rng lo n=>IsRangeIter h it ((lo:Int)+i) ((n:Int) - i) 1∧i≤n∧∀ y,I y↔y=it
|.lst v=>∃ l,VRep C v (.ref l)∧h.IsListIter it l i∧∀ y,I y↔y=it
|.enum v=>∃ l j old,VRep C v (.ref l)∧it≠j∧IsEnum h it j i old∧h.IsListIter j l i∧∀ y,I y↔y=it∨y=j
|.zip v w=>∃ l1 l2 TI TO i1 i2 p q,VRep C v (.ref l1)∧VRep C w (.ref l2)∧ZipApart it TI TO i1 i2 l1 l2∧IsZip h it TI TO .none∧IsPair h TI (.ref i1) (.ref i2)∧IsPair h TO p q∧h.IsListIter i1 l1 i∧h.IsListIter i2 l2 i∧∀ y,I y↔y=it∨y=TI∨y=TO∨y=i1∨y=i2
|.txt s=>∃ t,h.IsStrIter it "str_ascii_iterator" s t i∧okS s=true∧∀ y,I y↔y=it
inductive VIn (D:Nat→Prop):AV→Prop
|loc {n:Nat} {p:Part}:D n→VIn D (.loc n p)
|frozen (l:List Str):VIn D (.lst (strsAV l))
noncomputable def SrcIn (D:Nat→Prop):Src→Prop
|.rng _ _=>True
|.lst v=>VIn D v
|.enum v=>VIn D v
|.zip v w=>VIn D v∧VIn D w
|.txt _=>True
theorem VReps.strs {l:List Str}:∀ {us:List Value},VReps C (strsAV l) us→VReps C' (strsAV l) us:=by
 induction l with
|nil=>intro us r;cases r;exact .nil
|cons s l ih=>
  intro us r
  cases r with
 |cons r1 r=>obtain ⟨t,rfl,hs⟩:=r1.inv_str;exact .cons (.str s t hs) (ih r)
theorem iter_keep {l:Addr} (k:∀ o,h.get? it=some o→h'.get? it=some o) (x:h.IsListIter it l i):h'.IsListIter it l i:=by obtain ⟨o,z1,z2⟩:=x;exact ⟨o,k o z1,z2⟩
theorem iter_live {l:Addr} (x:h.IsListIter it l i):∃ o,h.get? it=some o:=by obtain ⟨o,e,_⟩:=x;exact ⟨o,e⟩
theorem strs_flat (l:List Str):(strsAV l).all flat=true:=by
 induction l with
|nil=>rfl
|cons x r ih=>exact ih
theorem Ext.list (x:Ext D b C h C' h') {w:Value} (d:VIn D v) (r:VRep C v w):VRep C' v w:=by
 cases d with
|loc d=>
  obtain ⟨rfl,q⟩:=r.inv_loc
  obtain ⟨z1,z2⟩:=x.rho _ _ d q
  rw [← z2]
  exact .loc _ _ z1
|frozen l=>
  obtain ⟨y,us,k,rfl,e,r,hl⟩:=r.inv_lst
  exact .lst (x.fz _ _ e) r.strs (strs_flat l) hl
noncomputable def Src.has:Src→List AV
|.rng _ _=>[]
|.lst v=>[v]
|.enum v=>[v]
|.zip v w=>[v,w]
|.txt _=>[]
theorem ItAt.keep (H:ItAt C h it I i src) (k:∀ y o,I y→h.get? y=some o→h'.get? y=some o) (m:∀ v w,v∈src.has→VRep C v w→VRep C' v w):ItAt C' h' it I i src:=by
 cases src with
|rng=>obtain ⟨h1,h2,h3⟩:=H;exact ⟨k _ _ ((h3 it).mpr rfl) h1,h2,h3⟩
|lst=>obtain ⟨l,h1,h2,h3⟩:=H;exact ⟨l,m _ _ (.head _) h1,iter_keep (k it · ((h3 it).mpr rfl)) h2,h3⟩
|txt=>obtain ⟨t,h1,h2,h3⟩:=H;exact ⟨t,by obtain ⟨o,z1,z2⟩:=h1;exact ⟨o,k _ _ ((h3 it).mpr rfl) z1,z2⟩,h2,h3⟩
|enum=>obtain ⟨l,j,old,h1,h2,h3,h4,h5⟩:=H;exact ⟨l,j,old,m _ _ (.head _) h1,h2,k _ _ ((h5 it).mpr (.inl rfl)) h3,iter_keep (k j · ((h5 j).mpr (.inr rfl))) h4,h5⟩
|zip=>
  obtain ⟨l1,l2,TI,TO,i1,i2,p,q,h1,h2,h3,h4,h5,h6,h7,h8,h9⟩:=H
  exact ⟨l1,l2,TI,TO,i1,i2,p,q,m _ _ (.head _) h1,m _ _ (.tail _ (.head _)) h2,h3,k _ _ ((h9 _).mpr (.inl rfl)) h4,k _ _ ((h9 _).mpr (.inr (.inl rfl))) h5,k _ _ ((h9 _).mpr (.inr (.inr (.inl rfl)))) h6,
   iter_keep (k i1 · ((h9 _).mpr (.inr (.inr (.inr (.inl rfl)))))) h7,iter_keep (k i2 · ((h9 _).mpr (.inr (.inr (.inr (.inr rfl)))))) h8,h9⟩
theorem SrcIn.of (d:SrcIn D src) (h:v∈src.has):VIn D v:=by
 cases src with
|rng=>cases h
|txt=>cases h
|lst=>exact List.mem_singleton.mp h▸d
|enum=>exact List.mem_singleton.mp h▸d
|zip=>exact (List.mem_cons.mp h).elim (fun z=>z▸d.1) fun z=>List.mem_singleton.mp z▸d.2
theorem ItAt.next (H:ItAt σ.C σ.h it I i src) (hI:PrvI σ.C I) (x:Nx D false σ σ') (d:SrcIn D src):ItAt σ'.C σ'.h it I i src:=
 H.keep (fun y o hy e=>x.ext.keep y o e (nmut_prv (hI y hy)) (.inr (nlcl_prv (hI y hy)))) fun _ _ h r=>x.ext.list (d.of h) r
noncomputable abbrev tgt0:Expr:=.Tuple [] 0 ⟨0,0,0,0⟩
theorem ltog_eq (x:Addr) (u:Value):letOwnedTupleGo tgt (.ref x) u=pure ()∨letOwnedTupleGo tgt (.ref x) u=letOwnedTupleGo tgt0 (.ref x) u:=by
 cases tgt<;>first|exact .inl rfl|exact .inr rfl
theorem ltog_at {x:Addr} {o:Obj} {u:Value} {vs:Array Value} {Q:Unit→Shared→Prop} {E:Value→Shared→Prop} {s:Shared} {c:String} (ho:s.heap.get? x=some o) (hc:o.cls=.type c) (hd:o.data=.fields vs)
  (hn:["enumerate","zip","dict_itemiterator","dict_reverseitemiterator","odict_iterator","itertools.zip_longest","itertools.pairwise"].contains c=false) (h:Q () s):wpAny g.M A (letOwnedTupleGo tgt (.ref x) u) Q E s:=by
 rcases ltog_eq (tgt:=tgt) x u with z|z
 ·rw [z];exact wpAny_pure h
 ·rw [z]
  unfold letOwnedTupleGo
  cases u<;>first|exact wpAny_pure h|skip
  refine wpAny_bind (wpAny_load ho ?_)
  rw [hc,hd]
  dsimp only
  rw [hn,Bool.false_and,if_neg Bool.false_ne_true]
  exact wpAny_pure h
theorem ltog_list {l:Addr} {u:Value} {Q:Unit→Shared→Prop} {E:Value→Shared→Prop} {s:Shared} (hit:s.heap.IsListIter it l i) (h:Q () s):wpAny g.M A (letOwnedTupleGo tgt (.ref it) u) Q E s:=by
 obtain ⟨_,ho,hc,hd⟩:=hit
 exact ltog_at ho hc hd (by decide) h
theorem ltog_val {it:Addr} {k:Int} {t:Tok} {Q:Unit→Shared→Prop} {E:Value→Shared→Prop} {s:Shared} (h:Q () s):wpAny g.M A (letOwnedTupleGo tgt (.ref it) (.int k t)) Q E s:=by
 rcases ltog_eq (tgt:=tgt) it (.int k t) with z|z<;>(rw [z];exact wpAny_pure h)
theorem ltog_str {x:Str} {t:Tok} {u:Value} {Q:Unit→Shared→Prop} {E:Value→Shared→Prop} {s:Shared} (hit:s.heap.IsStrIter it "str_ascii_iterator" x t i) (h:Q () s):wpAny g.M A (letOwnedTupleGo tgt (.ref it) u) Q E s:=by
 obtain ⟨_,ho,hc,hd⟩:=hit
 exact ltog_at ho hc hd (by decide) h
theorem okS_one {s:Str} {c:Nat} (h:okS s=true) (e:s.cps[i]?=some c):okS ⟨#[c]⟩=true:=by
 unfold okS at h ⊢
 rw [Bool.and_eq_true] at h ⊢
 refine ⟨?_,Nat.le_of_ble_eq_true rfl |> fun (h:1≤16777216)=>Nat.ble_eq_true_of_le h⟩
 have:=List.all_eq_true.mp h.1 c (by rw [Array.mem_toList_iff];exact Array.mem_of_getElem? e)
 show [c].all _=true
 rw [List.all_cons,this];rfl
theorem Ok.seen (O:Ok g C h a) {l:Addr} (e:Mine.listOf a v=some xs) (r:VRep C v (.ref l)):∃ us:List Value,h.IsList l us.toArray∧VReps C xs us:=by
 obtain ⟨l',us,k,el,z1,z2,_⟩:=O.listOf e r
 cases el
 exact ⟨us,⟨_,z1,rfl,_,rfl⟩,z2⟩
theorem seen_none {us:List Value} (r:VReps C xs us) (q:xs[i]?=none):us.toArray[i]?=none:=by
 have:=List.getElem?_eq_none_iff.mp q
 rw [List.getElem?_toArray]
 exact List.getElem?_eq_none_iff.mpr (r.length▸this)
theorem seen_some {us:List Value} (r:VReps C xs us) (q:xs[i]?=some x):∃ u,us.toArray[i]?=some u∧VRep C x u:=by
 obtain ⟨u,e,r⟩:=r.get q
 exact ⟨u,by rw [List.getElem?_toArray];exact e,r⟩
theorem ItAt.stop (H:ItAt σ.C σ.h it I i src) (hh:A.handled=none) (O:Ok g σ.C σ.h a) (e:srcAt a i src=some none) {F:Option Value→Shared→Prop} {E:Value→Shared→Prop}
  (hN:∀ h',(∀ y o,¬ I y→σ.h.get? y=some o→h'.get? y=some o)→F none { σ.s with heap:=h' }):wpAny g.M A (pyNext (.ref it)) F E σ.s:=by
 cases src with
|rng lo n=>
  obtain ⟨h1,h2,h3⟩:=H
  cases q:Nat.blt i n with
 |true=>rw [srcAt,q] at e;cases e
 |false=>
   have:¬ i<n:=fun z=>by rw [show Nat.blt i n=true from Nat.ble_eq_true_of_le z] at q;cases q
   exact wpAny_pyNext_range_end hh h1 (by omega) fun h' z=>hN h' fun y o hy=>z y o fun q=>hy ((h3 y).mpr q)
|lst v=>
  obtain ⟨l,h1,h2,h3⟩:=H
  obtain ⟨xs,e1,e2⟩:=Option.map_eq_some_iff.mp e
  obtain ⟨us,hl,r⟩:=O.seen e1 h1
  exact wpAny_pyNext_list_end hh h2 hl (seen_none r e2) fun h' z=>hN h' fun y o hy=>z y o fun q=>hy ((h3 y).mpr q)
|txt s=>
  obtain ⟨t,h1,_,h3⟩:=H
  exact wpAny_pyNext_ascii_end hh h1 (Option.map_eq_none_iff.mp (Option.some.inj e)) fun h' z=>hN h' fun y o hy=>z y o fun q=>hy ((h3 y).mpr q)
|enum v=>
  obtain ⟨l,j,old,h1,h2,h3,h4,h5⟩:=H
  obtain ⟨xs,e1,e2⟩:=Option.map_eq_some_iff.mp e
  obtain ⟨us,hl,r⟩:=O.seen e1 h1
  exact wpAny_pyNext_enum_end hh h3 h4 hl (seen_none r (Option.map_eq_none_iff.mp e2)) fun h' z=>hN h' fun y o hy=>z y o fun q=>hy ((h5 y).mpr (.inr q))
|zip v w=>
  obtain ⟨l1,l2,TI,TO,i1,i2,p,q,h1,h2,h3,h4,h5,h6,h7,h8,h9⟩:=H
  obtain ⟨xs,e1,e2⟩:=Option.bind_eq_some_iff.mp e
  obtain ⟨ys,e3,e4⟩:=Option.map_eq_some_iff.mp e2
  obtain ⟨us,hl,r⟩:=O.seen e1 h1
  obtain ⟨ws,hl',r'⟩:=O.seen e3 h2
  have hend:us.toArray[i]?=none∨ws.toArray[i]?=none:=by
   cases q:xs[i]? with
  |none=>exact .inl (seen_none r q)
  |some x=>rw [q] at e4;exact .inr (seen_none r' (Option.map_eq_none_iff.mp e4))
  exact wpAny_pyNext_zip_end hh h3 h4 h5 h6 h7 h8 hl hl' hend fun h' z=>hN h' fun y o hy=>z y o (fun q=>hy ((h9 y).mpr (.inl q))) (fun q=>hy ((h9 y).mpr (.inr (.inr (.inl q))))) (fun q=>hy ((h9 y).mpr (.inr (.inr (.inr (.inl q)))))) (fun q=>hy ((h9 y).mpr (.inr (.inr (.inr (.inr q))))))
theorem ItAt.item (H:ItAt σ.C σ.h it I i src) (hI:PrvI σ.C I) (O:Ok g σ.C σ.h a) (e:srcAt a i src=some (some x)) (ht:needsTup src=true→isTupT tgt=true) {F:Option Value→Shared→Prop} {G:Value→Shared→Prop} {E E':Value→Shared→Prop}
  (hF:∀ u s₁,wpAny g.M A (letOwnedTupleGo tgt (.ref it) u) (fun _=>G u) E' s₁→F (some u) s₁)
  (hS:∀ u σ',Step g I σ σ' a→VRep σ'.C x u→ItAt σ'.C σ'.h it I (i+1) src→G u σ'.s):wpAny g.M A (pyNext (.ref it)) F E σ.s:=by
 cases src with
|rng lo n=>
  obtain ⟨h1,h2,h3⟩:=H
  obtain ⟨q,e⟩:=bif_some (Option.some.inj e)
  have hk:i<n:=Nat.le_of_ble_eq_true q
  subst e
  refine wpAny_pyNext_range_item h1 (by omega) fun h' z1 z2=>hF _ _ (ltog_val ?_)
  rw [show (lo:Int)+(i:Int)+1=(lo:Int)+((i+1:Nat):Int) by omega,show (n:Int) - i - 1=(n:Int) - ((i+1:Nat):Int) by omega] at z1
  exact hS _ _ (Step.poke O hI (fun y o hy=>same_keeps z2 y o fun q=>hy ((h3 y).mpr q)) fun y hy=>by rw [(h3 y).mp hy];exact ⟨_,z1⟩) (.int _ _) ⟨z1,hk,h3⟩
|lst v=>
  obtain ⟨l,h1,h2,h3⟩:=H
  obtain ⟨xs,e1,e2⟩:=Option.map_eq_some_iff.mp e
  obtain ⟨us,hl,r⟩:=O.seen e1 h1
  obtain ⟨u,y1,y2⟩:=seen_some r e2
  refine wpAny_pyNext_list_item h2 hl y1 fun h' w1 w2=>hF _ _ (ltog_list w1 ?_)
  exact hS u (σ.at σ.C h' σ.s.toks) (Step.poke O hI (fun y o hy=>same_keeps w2 y o fun q=>hy ((h3 y).mpr q)) fun y hy=>by rw [(h3 y).mp hy];exact iter_live w1) y2 ⟨l,h1,w1,h3⟩
|txt s=>
  obtain ⟨t,h1,h2,h3⟩:=H
  obtain ⟨c,e1,e2⟩:=Option.map_eq_some_iff.mp (Option.some.inj e)
  subst e2
  refine wpAny_pyNext_ascii_item h1 e1 fun h' w1 w2=>hF _ _ (ltog_str w1 ?_)
  exact hS _ (σ.at σ.C h' (σ.s.toks+1)) (Step.poke O hI (fun y o hy=>same_keeps w2 y o fun q=>hy ((h3 y).mpr q)) fun y hy=>by rw [(h3 y).mp hy];obtain ⟨o,z,_⟩:=w1;exact ⟨o,z⟩) (.str _ _ (okS_one h2 e1)) ⟨t,w1,h2,h3⟩
|enum v=>
  obtain ⟨l,j,old,h1,h2,h3,h4,h5⟩:=H
  obtain ⟨xs,e1,e2⟩:=Option.map_eq_some_iff.mp e
  obtain ⟨x',e3,e4⟩:=Option.map_eq_some_iff.mp e2
  subst e4
  obtain ⟨us,hl,r⟩:=O.seen e1 h1
  obtain ⟨u,y1,y2⟩:=seen_some r e3
  refine wpAny_pyNext_enum_item h3 h4 hl y1 h2 fun h' w1 w2 w3 w4 w5=>?_
  obtain ⟨⟨ts,tc,tp,rfl⟩,_⟩:=Option.isSome_iff_exists.mp (ht rfl)
  refine hF _ _ (wpAny_letOwnedTupleGo_enum w1 fun h'' w6 w7=>?_)
  have hsz:it≠σ.h.objs.size:=Nat.ne_of_lt (Heap.lt_size h3)
  have k7:=same_keeps w7
  have hI2:h''.IsListIter j l (i+1):=iter_keep (k7 _ · fun z=>h2 z.symm) w2
  have kp:∀ y o,¬ I y→σ.h.get? y=some o→h''.get? y=some o:=fun y o hy e=>k7 _ _ (fun q=>hy ((h5 y).mpr (.inl q))) (w5 y o (fun q=>hy ((h5 y).mpr (.inl q))) (fun q=>hy ((h5 y).mpr (.inr q))) e)
  have lv:∀ y,I y→∃ o,h''.get? y=some o:=fun y hy=>((h5 y).mp hy).elim (fun z=>z▸⟨_,w6⟩) fun z=>z▸iter_live hI2
  obtain ⟨C',S',hv⟩:=Step.tup (t:=σ.s.toks+1) O hI kp lv (k7 _ _ (fun q=>hsz q.symm) w3) (.cons (.int (Int.ofNat i) _) (.cons y2 .nil)) (Nat.le_of_ble_eq_true rfl)
  exact hS _ _ S' hv ⟨l,j,_,h1.mono S'.more,h2,w6,hI2,h5⟩
|zip v w=>
  obtain ⟨l1,l2,TI,TO,i1,i2,p,q,h1,h2,h3,h4,h5,h6,h7,h8,h9⟩:=H
  obtain ⟨xs,e1,e2⟩:=Option.bind_eq_some_iff.mp e
  obtain ⟨ys,e3,e4⟩:=Option.map_eq_some_iff.mp e2
  obtain ⟨x1,e5,e6⟩:=Option.bind_eq_some_iff.mp e4
  obtain ⟨x2,e7,e8⟩:=Option.map_eq_some_iff.mp e6
  subst e8
  obtain ⟨us,hl,r⟩:=O.seen e1 h1
  obtain ⟨ws,hl',r'⟩:=O.seen e3 h2
  obtain ⟨u1,a1,a2⟩:=seen_some r e5
  obtain ⟨u2,b1,b2⟩:=seen_some r' e7
  refine wpAny_pyNext_zip_item h3 h4 h5 h6 h7 h8 hl hl' a1 b1 fun h' w1 w2 w3 w4 w5 w6 w7=>?_
  obtain ⟨⟨ts,tc,tp,rfl⟩,_⟩:=Option.isSome_iff_exists.mp (ht rfl)
  refine hF _ _ (wpAny_letOwnedTupleGo_zip w1 fun h'' w8 w9=>?_)
  have hsz:it≠σ.h.objs.size:=Nat.ne_of_lt (Heap.lt_size h4)
  have k9:=same_keeps w9
  have p5:IsPair h'' TI (.ref i1) (.ref i2):=k9 _ _ h3.TIz (w7 _ _ h3.TIz h3.TITO h3.TIi1 h3.TIi2 h5)
  have p6:IsPair h'' TO u1 u2:=k9 _ _ h3.TOz w2
  have p7:h''.IsListIter i1 l1 (i+1):=iter_keep (k9 _ · h3.i1z) w3
  have p8:h''.IsListIter i2 l2 (i+1):=iter_keep (k9 _ · h3.i2z) w4
  have kp:∀ y o,¬ I y→σ.h.get? y=some o→h''.get? y=some o:=fun y o hy e=>k9 y o (fun q=>hy ((h9 y).mpr (.inl q))) (w7 y o (fun q=>hy ((h9 y).mpr (.inl q))) (fun q=>hy ((h9 y).mpr (.inr (.inr (.inl q))))) (fun q=>hy ((h9 y).mpr (.inr (.inr (.inr (.inl q)))))) (fun q=>hy ((h9 y).mpr (.inr (.inr (.inr (.inr q)))))) e)
  have lv:∀ y,I y→∃ o,h''.get? y=some o:=fun y hy=>by
   rcases (h9 y).mp hy with z|z|z|z|z
   ·exact z▸⟨_,w8⟩
   ·exact z▸⟨_,p5⟩
   ·exact z▸⟨_,p6⟩
   ·exact z▸iter_live p7
   ·exact z▸iter_live p8
  obtain ⟨C',S',hv⟩:=Step.tup (t:=σ.s.toks) O hI kp lv (k9 _ _ (fun q=>hsz q.symm) w5) (.cons a2 (.cons b2 .nil)) (Nat.le_of_ble_eq_true rfl)
  exact hS _ _ S' hv ⟨l1,l2,TI,TO,i1,i2,u1,u2,h1.mono S'.more,h2.mono S'.more,h3,w8,p5,p6,p7,p8,h9⟩
end
section
variable {g:Cx} {T:Tabs} {D D':Nat→Prop} {C C' C₀ C₁:Cfg} {h h' h₀ h₁:Heap} {a a' a₀ a₁ a₂ a₃:Hp} {n m i:Nat} {σ σ' σ₀ σ₁:St} {sc:Scope} {vs vs' vs₁ vs₂:Vars} {A:Around} {env:Env} {b c:Bool} {v u x y z w:AV} {e f t l r tgt:Expr} {p pos:Pos} {xs ys:List AV} {I:Addr→Prop} {it:Addr} {src:Src} {es:List Expr} {body:List Stmt} {fl:Fl}
theorem folded_plain {iter:Expr} {x:Value} (h:noSet iter=true):foldedSetIterable iter env x=pure x:=by
 cases iter<;>first|rfl|cases h
open Classical in
theorem Ok.iter (O:Ok g C h a) (hI:∀ y,I y→h.get? y=none∧∃ o,h'.get? y=some o) (k:∀ x o,h.get? x=some o→h'.get? x=some o):∃ C',Ok g C' h' a∧Ext All true C h C' h'∧PrvI C' I∧NotIn C h I:=by
 obtain ⟨q1,q2⟩:=O.mark (m:=fun y=>if I y then some .prv else none) (h':=h') (fun y u e=>by
  by_cases z:I y
  ·exact hI y z
  ·rw [if_neg z] at e;cases e) k
 exact ⟨_,q1,q2,fun y hy=>or_some (if_pos hy),fun y hy=>⟨(hI y hy).1,O.own_none (hI y hy).1⟩⟩
def ItR (g:Cx) (n:Nat) (sc:Scope) (vs:Vars) (e:Expr) (a:Hp) (src:Src) (a':Hp):Prop:=noSet e=true∧∀ (A:Around) (env:Env) (σ:St) (G:Value→Shared→Prop) (E:Value→Shared→Prop),Room n A→EnvOk env sc→Ok g σ.C σ.h a→VR g σ env vs →
 (∀ it I σ',Nx All true σ σ'→Ok g σ'.C σ'.h a'→ItAt σ'.C σ'.h it I 0 src→PrvI σ'.C I→NotIn σ.C σ.h I→G (.ref it) σ'.s)→wpAny g.M A (eval e env) (fun xv s₁=>wpAny g.M A (pyIter xv) G E s₁) E σ.s
theorem Nx.iter (x:Nx All true σ σ₁) (O:Ok g σ.C σ.h a) (O₁:Ok g σ₁.C σ₁.h a') {t:Nat} (hI:∀ y,I y→σ₁.h.get? y=none∧∃ o,h'.get? y=some o) (k:∀ x o,σ₁.h.get? x=some o→h'.get? x=some o):
  ∃ C',Nx All true σ (σ₁.at C' h' t)∧Ok g C' h' a'∧More σ₁.C C'∧PrvI C' I∧NotIn σ.C σ.h I:=by
 obtain ⟨C₂,O₂,x₂,p₂,q₂⟩:=O₁.iter hI k
 exact ⟨C₂,x.trans (Nx.at x₂),O₂,x₂.more,p₂,q₂.back x.ext O⟩
theorem ItR.plain (hn:noSet e=true) (H:EvR g n sc vs e a v a') (e1:listOf a' v=some xs):ItR g n sc vs e a (.lst v) a':=⟨hn,fun A env σ G E hR hE O V h=>
 H A env σ hR hE O V _ E fun u σ₁ x₁ O₁ r₁=>by
  obtain ⟨l,us,k,rfl,z1,z2,z3⟩:=O₁.listOf e1 r₁
  refine wpAny_pyIter_list (items:=us.toArray) ⟨_,z1,rfl,_,rfl⟩ ?_
  obtain ⟨C₂,x₂,O₂,M,p₂,q₂⟩:=x₁.iter O O₁ (t:=σ₁.s.toks) (I:=fun y=>y=σ₁.h.objs.size) (h':=σ₁.h.push { cls:=.type "list_iterator",data:=.fields #[.ref l,.int 0 0] }) (fun y hy=>hy▸⟨none_of_size _,_,Heap.get?_push_size _ rfl⟩) (push_keeps _ _)
  exact h _ _ (σ₁.at C₂ _ σ₁.s.toks) x₂ O₂ ⟨l,r₁.mono M,⟨_,Heap.get?_push_size _ rfl,rfl,rfl⟩,fun _=>Iff.rfl⟩ p₂ q₂⟩
theorem ItR.txt {s:Str} (hn:noSet e=true) (H:EvR g n sc vs e a (.str s) a') (ha:s.cps.all (·<128)=true):ItR g n sc vs e a (.txt s) a':=⟨hn,fun A env σ G E hR hE O V h=>
 H A env σ hR hE O V _ E fun u σ₁ x₁ O₁ r₁=>by
  obtain ⟨t,rfl,hs⟩:=r₁.inv_str
  refine wpAny_pyIter_ascii ha ?_
  obtain ⟨C₂,x₂,O₂,M,p₂,q₂⟩:=x₁.iter O O₁ (t:=σ₁.s.toks) (I:=fun y=>y=σ₁.h.objs.size) (h':=σ₁.h.push { cls:=.type "str_ascii_iterator",data:=.fields #[.str s t,.int 0 0] }) (fun y hy=>hy▸⟨none_of_size _,_,Heap.get?_push_size _ rfl⟩) (push_keeps _ _)
  exact h _ _ (σ₁.at C₂ _ σ₁.s.toks) x₂ O₂ ⟨t,⟨_,Heap.get?_push_size _ rfl,rfl,rfl⟩,hs,fun _=>Iff.rfl⟩ p₂ q₂⟩
theorem typ_call {k:Str} {q:Pos} {id:String} (H:EvR g n sc vs (.Name k q) a (.val (.type id)) a) (hs:es.all noStar=true) (K:EsR g n sc vs es a xs a') (hR:Room n A) (hE:EnvOk env sc) (O:Ok g σ.C σ.h a) (V:VR g σ env vs) {Q:Value→Shared→Prop} {E:Value→Shared→Prop}
  (h:∀ us σ₁,Nx All true σ σ₁→Ok g σ₁.C σ₁.h a'→VReps σ₁.C xs us→wpAny g.M A (call (.type id) us) Q E σ₁.s):wpAny g.M A (eval (.Call (.Name k q) es [] pos) env) Q E σ.s:=by
 show wpAny _ A (eval (.Name k q) env>>=fun fv=>callWith pos fv [] (backTo pos (starEach es env)) []) Q E σ.s
 refine wpAny_bind (H A env σ hR hE O V _ E fun u σ₁ x₁ O₁ r₁=>?_)
 obtain rfl:=r₁.inv_val
 exact PyProof.Rows.callWith_type (plain_es hs).1 (K.args hs hR hE O₁ (V.ext x₁) fun us σ₂ x₂ O₂ r₂=>h us σ₂ (x₁.trans x₂) O₂ r₂)
theorem range_iter (x₁:Nx All true σ σ₁) (O:Ok g σ.C σ.h a) (O₁:Ok g σ₁.C σ₁.h a') {lo k t:Nat} (hz:lo+k≤cap) {G:Value→Shared→Prop} {E:Value→Shared→Prop} {t1 t2 t3:Tok} {R:Addr} (hr:IsRange h₁ R (lo:Int) ((lo+k:Nat):Int) 1 t1 t2 t3) (K:∀ y o,σ₁.h.get? y=some o→h₁.get? y=some o)
  (h:∀ it I σ',Nx All true σ σ'→Ok g σ'.C σ'.h a'→ItAt σ'.C σ'.h it I 0 (.rng lo k)→PrvI σ'.C I→NotIn σ.C σ.h I→G (.ref it) σ'.s):wpAny g.M A (pyIter (.ref R)) G E (σ₁.at σ₁.C h₁ t).s:=by
 unfold cap at hz
 refine wpAny_pyIter_range hr (small_one (by omega) (by omega) (by omega) (by omega)) ?_
 obtain ⟨C₂,x₂,O₂,M,p₂,q₂⟩:=(x₁.trans (Nx.push (t:=t) K)).iter O (O₁.grow K) (t:=t) (I:=fun y=>y=h₁.objs.size) (h':=h₁.push { cls:=.type "range_iterator",data:=.fields #[rawInt (lo:Int),rawInt (Builtin.Range.rangeSize (lo:Int) ((lo+k:Nat):Int) 1),rawInt 1] }) (fun y hy=>hy▸⟨none_of_size _,_,Heap.get?_push_size _ rfl⟩) (push_keeps _ _)
 have hsz:Builtin.Range.rangeSize (lo:Int) ((lo+k:Nat):Int) 1=(k:Int) - ((0:Nat):Int):=by rw [rangeSize_one];split<;>omega
 refine h _ _ (σ₁.at C₂ _ t) x₂ O₂ ⟨?_,Nat.zero_le _,fun _=>Iff.rfl⟩ p₂ q₂
 have:=Heap.get?_push_size h₁ (o:={ cls:=.type "range_iterator",data:=.fields #[rawInt (lo:Int),rawInt (Builtin.Range.rangeSize (lo:Int) ((lo+k:Nat):Int) 1),rawInt 1] }) rfl
 rw [hsz] at this
 rw [hsz,show ((0:Nat):Int)=0 from rfl,Int.add_zero]
 exact this
theorem ItR.range1 {k:Str} {q:Pos} {j:Nat} (H:EvR g n sc vs (.Name k q) a (.val (.type "range")) a) (hs:noStar e=true) (K:EvR g n sc vs e a (.nat j) a') (hz:Nat.ble j cap=true):ItR g n sc vs (.Call (.Name k q) [e] [] pos) a (.rng 0 j) a':=⟨rfl,fun A env σ G E hR hE O V h=>
 typ_call H (by rw [List.all_cons,hs];rfl) (.cons hs K .nil) hR hE O V fun us σ₁ x₁ O₁ r₁=>by
  obtain ⟨u,rfl,r'⟩:=r₁.one
  obtain ⟨t,rfl⟩:=r'.inv_int
  refine call_range_1 ?_
  have hs1:(σ₁.h.push { cls:=.type "range",data:=.fields #[.int 0 σ₁.s.toks,.int (Int.ofNat j) t,.int 1 (σ₁.s.toks+1)] }).objs.size - 1=σ₁.h.objs.size:=by rw [Heap.size_push];rfl
  exact range_iter x₁ O O₁ (lo:=0) (k:=j) (by rw [Nat.zero_add];exact Nat.le_of_ble_eq_true hz) (by rw [Nat.zero_add];exact IsRange.new ..) (push_keeps _ _) h⟩
theorem ItR.range2 {k:Str} {q:Pos} {i j:Nat} (H:EvR g n sc vs (.Name k q) a (.val (.type "range")) a) (hs:(noStar e&&noStar f)=true) (K:EvR g n sc vs e a (.nat i) a₁) (L:EvR g n sc vs f a₁ (.nat j) a') (hi:Nat.ble i j=true) (hz:Nat.ble j cap=true):
  ItR g n sc vs (.Call (.Name k q) [e,f] [] pos) a (.rng i (j - i)) a':=⟨rfl,fun A env σ G E hR hE O V h=>by
 have hs2:[e,f].all noStar=true:=by rw [List.all_cons,List.all_cons,← Bool.and_assoc,hs];rfl
 rw [Bool.and_eq_true] at hs
 refine typ_call H hs2 (.cons hs.1 K (.cons hs.2 L .nil)) hR hE O V fun us σ₁ x₁ O₁ r₁=>?_
 obtain ⟨u,w,rfl,r1,r2⟩:=r₁.two
 obtain ⟨ti,rfl⟩:=r1.inv_int
 obtain ⟨tj,rfl⟩:=r2.inv_int
 refine call_range_2 ?_
 have hi:=Nat.le_of_ble_eq_true hi
 exact range_iter x₁ O O₁ (lo:=i) (k:=j - i) (by rw [Nat.add_sub_cancel' hi];exact Nat.le_of_ble_eq_true hz) (by rw [Nat.add_sub_cancel' hi];exact IsRange.new ..) (push_keeps _ _) h⟩
theorem ItR.enum {k:Str} {q:Pos} (H:EvR g n sc vs (.Name k q) a (.val (.type "enumerate")) a) (hs:noStar e=true) (K:EvR g n sc vs e a v a') (e1:listOf a' v=some xs):ItR g n sc vs (.Call (.Name k q) [e] [] pos) a (.enum v) a':=⟨rfl,fun A env σ G E hR hE O V h=>
 typ_call H (by rw [List.all_cons,hs];rfl) (.cons hs K .nil) hR hE O V fun us σ₁ x₁ O₁ r₁=>by
  obtain ⟨u,rfl,r'⟩:=r₁.one
  obtain ⟨l,ws,k,rfl,z1,z2,z3⟩:=O₁.listOf e1 r'
  refine call_enumerate_list (items:=ws.toArray) ⟨_,z1,rfl,_,rfl⟩ fun h₂ w1 w2 w3 k₂=>?_
  refine wpAny_pyIter_enum w1 ?_
  obtain ⟨C₂,x₂,O₂,M,p₂,q₂⟩:=x₁.iter O O₁ (t:=σ₁.s.toks) (I:=fun y=>y=σ₁.h.objs.size+1∨y=σ₁.h.objs.size) (h':=h₂) (fun y hy=>by
   rcases hy with rfl|rfl
   ·exact ⟨size_none _ 1,_,w1⟩
   ·exact ⟨none_of_size _,iter_live w2⟩) k₂
  exact h _ _ (σ₁.at C₂ _ σ₁.s.toks) x₂ O₂ ⟨l,_,_,r'.mono M,Nat.succ_ne_self _,w1,w2,fun _=>Iff.rfl⟩ p₂ q₂⟩
theorem zipApart_new {m l1 l2:Nat} (h1:l1<m) (h2:l2<m):ZipApart (m+4) (m+2) (m+3) m (m+1) l1 l2:=by
 constructor<;>(refine @id ((_:Nat)≠_) ?_;omega)
theorem ItR.zip {k:Str} {q:Pos} (H:EvR g n sc vs (.Name k q) a (.val (.type "zip")) a) (hs:(noStar e&&noStar f)=true) (K:EvR g n sc vs e a v a₁) (L:EvR g n sc vs f a₁ w a') (e1:listOf a' v=some xs) (e2:listOf a' w=some ys):ItR g n sc vs (.Call (.Name k q) [e,f] [] pos) a (.zip v w) a':=⟨rfl,fun A env σ G E hR hE O V h=>by
 have hs2:[e,f].all noStar=true:=by rw [List.all_cons,List.all_cons,← Bool.and_assoc,hs];rfl
 rw [Bool.and_eq_true] at hs
 refine typ_call H hs2 (.cons hs.1 K (.cons hs.2 L .nil)) hR hE O V fun us σ₁ x₁ O₁ r₁=>?_
 obtain ⟨u,u',rfl,r1,r2⟩:=r₁.two
 obtain ⟨l1,ws,k,rfl,z1,z2,z3⟩:=O₁.listOf e1 r1
 obtain ⟨l2,ws',k',rfl,y1,y2,y3⟩:=O₁.listOf e2 r2
 refine call_zip_2 (xs:=ws.toArray) (ys:=ws'.toArray) ⟨_,z1,rfl,_,rfl⟩ ⟨_,y1,rfl,_,rfl⟩ fun h₂ w1 w2 w3 w4 w5 w6 k₂=>?_
 refine wpAny_pyIter_zip w1 ?_
 obtain ⟨C₂,x₂,O₂,M,p₂,q₂⟩:=x₁.iter O O₁ (t:=σ₁.s.toks) (I:=fun y=>y=σ₁.h.objs.size+4∨y=σ₁.h.objs.size+2∨y=σ₁.h.objs.size+3∨y=σ₁.h.objs.size∨y=σ₁.h.objs.size+1) (h':=h₂) (fun y hy=>by
  rcases hy with rfl|rfl|rfl|rfl|rfl
  ·exact ⟨size_none _ 4,_,w1⟩
  ·exact ⟨size_none _ 2,_,w2⟩
  ·exact ⟨size_none _ 3,_,w3⟩
  ·exact ⟨none_of_size _,iter_live w4⟩
  ·exact ⟨size_none _ 1,iter_live w5⟩) k₂
 exact h _ _ (σ₁.at C₂ _ σ₁.s.toks) x₂ O₂ ⟨l1,l2,_,_,_,_,_,_,r1.mono M,r2.mono M,zipApart_new (Heap.lt_size z1) (Heap.lt_size y1),w1,w2,w3,w4,w5,fun _=>Iff.rfl⟩ p₂ q₂⟩
inductive LoR (g:Cx) (n:Nat) (D:Nat→Prop) (sc:Scope) (tgt:Expr) (body:List Stmt) (src:Src) (fl:Fl) (vs':Vars) (a':Hp):Nat→Nat→Vars→Hp→Prop
|done {i:Nat}:fl=.next→srcAt a' i src=some none→LoR g n D sc tgt body src fl vs' a' 0 i vs' a'
|turn {k i:Nat} {x:AV} {vs vs₁ vs₂:Vars} {a a₂:Hp}:srcAt a i src=some (some x)→AsR g n sc tgt x vs a vs₁ a→SsR g n D sc vs₁ body a .next vs₂ a₂→LoR g n D sc tgt body src fl vs' a' k (i+1) vs₂ a₂→LoR g n D sc tgt body src fl vs' a' (k+1) i vs a
|ret {i:Nat} {x v:AV} {vs vs₁:Vars} {a:Hp}:fl=.ret v→srcAt a i src=some (some x)→AsR g n sc tgt x vs a vs₁ a→SsR g n D sc vs₁ body a (.ret v) vs' a'→LoR g n D sc tgt body src fl vs' a' 0 i vs a
theorem LoR.split {k:Nat} (L:LoR g n D sc tgt body src fl vs' a' k i vs a):(fl=.next∧srcAt a i src=some none∧vs=vs'∧a=a')∨∃ x vs₁ f vs₂ a₂,srcAt a i src=some (some x)∧AsR g n sc tgt x vs a vs₁ a∧SsR g n D sc vs₁ body a f vs₂ a₂ ∧
  ((f=.next∧∃ j,j<k∧LoR g n D sc tgt body src fl vs' a' j (i+1) vs₂ a₂)∨(f=fl∧(∃ v,fl=.ret v)∧vs₂=vs'∧a₂=a')):=by
 cases L with
|done h1 h2=>exact .inl ⟨h1,h2,rfl,rfl⟩
|turn h1 h2 h3 h4=>exact .inr ⟨_,_,_,_,_,h1,h2,h3,.inl ⟨rfl,_,Nat.lt_succ_self _,h4⟩⟩
|ret h0 h1 h2 h3=>exact .inr ⟨_,_,_,_,_,h1,h2,h3,.inr ⟨h0.symm,⟨_,h0⟩,rfl,rfl⟩⟩
theorem VR.drop (V:VR g σ env vs) (hI:∀ y,σ.C.own y=some .lcl→¬ I y) {t:Nat} (k:∀ y o,¬ I y→σ.h.get? y=some o→h'.get? y=some o):VR g (σ.at (σ.C.drop I) h' t) env vs:=
 V.map (fun y o e z=>⟨(Cfg.drop_out (hI y e)).trans e,k y o (hI y e) z⟩) fun x v e=>⟨v,e,fun _ r=>r.mono Cfg.drop_more⟩
theorem Nx.to (x:Nx D b σ σ₁) {t:Nat} (y:Ext D' c σ.C σ.h C' h'):Nx D' c σ (σ₁.at C' h' t):=⟨y,by show { σ₁.s with heap:=h',toks:=t }=_;rw [x.same]⟩
def ForInv (g:Cx) (n:Nat) (D:Nat→Prop) (sc:Scope) (env:Env) (tgt:Expr) (body:List Stmt) (src:Src) (fl:Fl) (vs':Vars) (a':Hp) (it:Addr) (I:Addr→Prop) (σ₀:St) (k:Nat) (s:Shared):Prop:=
 ∃ i vs a σ,s=σ.s∧Ok g σ.C σ.h a∧Nx D false σ₀ σ∧VR g σ env vs∧ItAt σ.C σ.h it I i src∧PrvI σ.C I∧LoR g n D sc tgt body src fl vs' a' k i vs a
theorem SR.for {iter:Expr} {k:Nat} (H:ItR g n sc vs iter a src a₁) (hD:SrcIn D src) (ht:needsTup src=true→isTupT tgt=true) (L:LoR g n D sc tgt body src fl vs' a' k 0 vs a₁):SR g n D sc vs (.For tgt iter body [] pos) a fl vs' a':=by
 intro A env σ hR hE O V Q E h
 refine wpAny_For ?_ (fun x=>folded_plain H.1)
 refine H.2 A env σ _ E hR hE O V fun it I σ₁ x₁ O₁ It hI hN=>?_
 refine codeAny_forLoop_any (ForInv g n D sc env tgt body src fl vs' a' it I σ) ?_ k ⟨0,vs,a₁,σ₁,rfl,O₁,x₁.wD,V.ext x₁,It,hI,L⟩
 rintro k _ ⟨i,vs₂,a₂,σ₂,rfl,O₂,x₂,V₂,It₂,hI₂,L₂⟩
 rcases L₂.split with ⟨rfl,e1,rfl,rfl⟩|⟨x,vs₃,f₄,vs₄,a₄,e1,e2,e3,fin⟩
 ·refine It₂.stop hR.handled O₂ e1 fun h' kp=>wpAny_execs_nil ?_
  exact h .next (σ₂.at (σ₂.C.drop I) h' σ₂.s.toks) .next (x₂.to (x₂.ext.drop hN kp)) (O₂.drop hI₂.lp kp) (V₂.drop hI₂.lcl kp)
 ·refine It₂.item (tgt:=tgt) hI₂ O₂ e1 ht (fun u s₁ q=>q) fun u σ₃ S₃ ru It₃=>?_
  have hI₃:=S₃.prv hI₂
  refine e2 _ env σ₃ u hR hE S₃.ok (S₃.vr hI₂ V₂) ru _ _ fun σ₄ x₄ O₄ V₄=>?_
  have It₄:=It₃.next hI₃ x₄.toD hD
  have hI₄:PrvI σ₄.C I:=fun y hy=>x₄.ext.prv y (hI₃ y hy)
  refine e3 _ env σ₄ hR hE O₄ V₄ _ _ fun f' σ₅ F₅ x₅ O₅ V₅=>?_
  have X:=((S₃.nx x₂ hN).trans x₄.toD).trans x₅
  rcases fin with ⟨rfl,j,hj,L₃⟩|⟨rfl,⟨v,rfl⟩,rfl,rfl⟩
  ·cases F₅
   exact ⟨j,hj,_,_,_,σ₅,rfl,O₅,X,V₅,It₄.next hI₄ x₅ hD,fun y hy=>x₅.ext.prv y (hI₄ y hy),L₃⟩
  ·cases F₅ with
  |ret r=>exact h _ σ₅ (.ret r) X O₅ V₅
end
noncomputable def isFree:Option NameKind→Bool
|some .free=>true
|_=>false
noncomputable def freeVars (csc:Scope) (vs:Vars):Vars:=vs.filter fun p=>isFree (look p.1 csc.names)
noncomputable def isKind (k:NameKind):Option NameKind→Bool
|some j=>Nat.beq k.ctorIdx j.ctorIdx
|none=>false
noncomputable def compOk (sc csc:Scope):Bool:=(match csc.kind with|.function=>true|_=>false)&&csc.names.all fun p=>!strB p.1 (Str.ofString "__debug__")&&!strB p.1 (Str.ofString "__classdict__")&&isKind p.2 (look p.1 csc.names) &&
 (isKind p.2 (some .local)||isKind p.2 (some .globalImplicit)||(isKind p.2 (some .free)&&(isKind .cell (look p.1 sc.names)||isKind .free (look p.1 sc.names))))
theorem isKind_iff {k:NameKind} {o:Option NameKind} (h:isKind k o=true):o=some k:=by
 cases o with
|none=>cases h
|some j=>cases k<;>cases j<;>first|rfl|cases h
structure CompOk (sc csc:Scope):Prop where
 kind:csc.kind=.function
 dbg:∀ x k,(x,k)∈csc.names→(x==("__debug__":Str))=false∧(x==("__classdict__":Str))=false
 self:∀ x k,(x,k)∈csc.names→look x csc.names=some k
 kinds:∀ x k,(x,k)∈csc.names→k=.local∨k=.globalImplicit∨(k=.free∧(look x sc.names=some .cell∨look x sc.names=some .free))
theorem compOk_inv {sc csc:Scope} (h:compOk sc csc=true):CompOk sc csc:=by
 unfold compOk at h
 rw [Bool.and_eq_true] at h
 obtain ⟨h1,h2⟩:=h
 have h2:=List.all_eq_true.mp h2
 have each:∀ x k,(x,k)∈csc.names→strB x (Str.ofString "__debug__")=false∧strB x (Str.ofString "__classdict__")=false∧isKind k (look x csc.names)=true∧(k=.local∨k=.globalImplicit∨(k=.free∧(look x sc.names=some .cell∨look x sc.names=some .free))):=by
  intro x k hm
  have:=h2 (x,k) hm
  simp only [Bool.and_eq_true,Bool.not_eq_true',Bool.or_eq_true] at this
  obtain ⟨⟨⟨z1,z2⟩,z3⟩,z4⟩:=this
  refine ⟨z1,z2,z3,?_⟩
  rcases z4 with (z|z)|⟨z,z'⟩
  ·exact .inl (Option.some.inj (isKind_iff z)).symm
  ·exact .inr (.inl (Option.some.inj (isKind_iff z)).symm)
  ·exact .inr (.inr ⟨(Option.some.inj (isKind_iff z)).symm,z'.imp isKind_iff isKind_iff⟩)
 refine ⟨?_,fun x k hm=>?_,fun x k hm=>isKind_iff (each x k hm).2.2.1,fun x k hm=>(each x k hm).2.2.2⟩
 ·split at h1
  ·assumption
  ·cases h1
 ·obtain ⟨z1,z2,_⟩:=each x k hm
  rw [strB_beq] at z1 z2
  exact ⟨z1,z2⟩
theorem closure_ok (env:Env) (names:List (Str×NameKind)):∀ (acc:List (Str×Addr)),(∀ x,(x,NameKind.free)∈names→∃ c,env.cells.lookup x=some c) →
  ∃ cl,(forIn names acc fun (x:Str×NameKind) cs=>if (x.2==NameKind.free)=true then (do let c ← cellOf env x.1;pure (ForInStep.yield ((x.1,c)::cs))) else pure (ForInStep.yield cs):Sem (List (Str×Addr)))=pure cl ∧
   (∀ x c,(x,c)∈cl→(x,c)∈acc∨((x,NameKind.free)∈names∧env.cells.lookup x=some c))∧(∀ x,(x,NameKind.free)∈names∨(∃ c,(x,c)∈acc)→∃ c,(x,c)∈cl):=by
 induction names with
|nil=>exact fun acc _=>⟨acc,rfl,fun x c h=>.inl h,fun x h=>h.elim (fun z=>nomatch z) id⟩
|cons p r ih=>
  intro acc h
  obtain ⟨y,k⟩:=p
  have hr:∀ x,(x,NameKind.free)∈r→∃ c,env.cells.lookup x=some c:=fun x hx=>h x (List.mem_cons_of_mem _ hx)
  by_cases hk:k=.free
  ·subst hk
   obtain ⟨c,hc⟩:=h y List.mem_cons_self
   obtain ⟨cl,z1,z2,z3⟩:=ih ((y,c)::acc) hr
   refine ⟨cl,?_,fun x c' hx=>?_,fun x hx=>?_⟩
   ·rw [List.forIn_cons]
    have:(cellOf env y:Sem Addr)=pure c:=by unfold cellOf;rw [hc]
    simp only [this,beq_self_eq_true,if_true,pure_bind]
    exact z1
   ·rcases z2 x c' hx with z|z
    ·rcases List.mem_cons.mp z with z|z
     ·cases z;exact .inr ⟨List.mem_cons_self,hc⟩
     ·exact .inl z
    ·exact .inr ⟨List.mem_cons_of_mem _ z.1,z.2⟩
   ·rcases hx with hx|⟨c',hx⟩
    ·rcases List.mem_cons.mp hx with z|z
     ·cases z;exact z3 y (.inr ⟨c,List.mem_cons_self⟩)
     ·exact z3 x (.inl z)
    ·exact z3 x (.inr ⟨c',List.mem_cons_of_mem _ hx⟩)
  ·have hb:(k==NameKind.free)=false:=by simpa using hk
   obtain ⟨cl,z1,z2,z3⟩:=ih acc hr
   refine ⟨cl,?_,fun x c' hx=>(z2 x c' hx).imp id fun z=>⟨List.mem_cons_of_mem _ z.1,z.2⟩,fun x hx=>?_⟩
   ·rw [List.forIn_cons]
    simp only [hb,Bool.false_eq_true,if_false,pure_bind]
    exact z1
   ·rcases hx with hx|hx
    ·rcases List.mem_cons.mp hx with z|z
     ·cases z;exact absurd rfl hk
     ·exact z3 x (.inl z)
    ·exact z3 x (.inr hx)
theorem relabel_lookup {env:Env} {x:Str} {names:List (Str×NameKind)}:
  (names.map fun (n,k)=>if (k==NameKind.free&&env.scope.kind==.function&&env.kindOf n==some .cell) then (n,NameKind.cell) else (n,k)).lookup x=(names.lookup x).map fun k=>if (k==NameKind.free&&env.scope.kind==.function&&env.kindOf x==some .cell) then NameKind.cell else k:=by
 induction names with
|nil=>rfl
|cons p r ih=>
  obtain ⟨n,k⟩:=p
  rw [List.map_cons,List.lookup_cons]
  dsimp only
  by_cases hc:(k==NameKind.free&&env.scope.kind==.function&&env.kindOf n==some .cell)=true
  ·rw [if_pos hc,List.lookup_cons]
   cases hx:x==n with
  |true=>rw [beq_iff_eq.mp hx];simp only [Option.map_some,hc,if_true]
  |false=>exact ih
  ·rw [if_neg hc,List.lookup_cons]
   cases hx:x==n with
  |true=>rw [beq_iff_eq.mp hx];simp only [Option.map_some];rw [if_neg hc]
  |false=>exact ih
theorem look_freeVars {csc:Scope} {x:Str} {v:AV} {vs:Vars}:look x (freeVars csc vs)=some v→look x vs=some v∧look x csc.names=some .free:=by
 unfold freeVars
 induction vs with
|nil=>exact fun h=>nomatch h
|cons p r ih=>
  intro h
  rw [look_cons]
  rw [List.filter_cons] at h
  by_cases q:isFree (look p.1 csc.names)=true
  ·rw [if_pos q,look_cons] at h
   by_cases hxy:x=p.1
   ·rw [if_pos hxy] at h ⊢
    rw [hxy]
    refine ⟨h,?_⟩
    unfold isFree at q
    split at q
    ·assumption
    ·cases q
   ·rw [if_neg hxy] at h ⊢
    exact ih h
  ·rw [if_neg q] at h
   obtain ⟨z1,z2⟩:=ih h
   by_cases hxy:x=p.1
   ·rw [← hxy,z2] at q;exact absurd rfl q
   ·rw [if_neg hxy];exact ⟨z1,z2⟩
structure ClosOk (env:Env) (csc:Scope) (cl:List (Str×Addr)):Prop where
 eq:closureFor csc env=pure cl
 from_:∀ x c,cl.lookup x=some c→(x,NameKind.free)∈csc.names∧env.cells.lookup x=some c
 all:∀ x,(x,NameKind.free)∈csc.names→∃ c,cl.lookup x=some c
theorem kind_of {env:Env} {sc csc:Scope} (hE:EnvOk env sc) (hC:CompOk sc csc) {x:Str} (h:(x,NameKind.free)∈csc.names):env.kindOf x=some .cell∨env.kindOf x=some .free:=by
 have z:=((hC.kinds x _ h).resolve_left fun z=>nomatch z).resolve_left fun z=>nomatch z
 rcases z.2 with z|z
 ·exact .inl ((hE.nm x _ z).1.resolve_right fun q=>nomatch q.1)
 ·exact (hE.nm x _ z).1.elim .inr fun q=>.inl q.2
theorem lookup_mem {α:Type} {x:Str} {l:List (Str×α)} {c:α} (h:(x,c)∈l):∃ c',l.lookup x=some c':=by
 induction l with
|nil=>cases h
|cons p r ih=>
  rw [List.lookup_cons]
  cases hb:x==p.1 with
 |true=>exact ⟨p.2,rfl⟩
 |false=>
   rcases List.mem_cons.mp h with z|z
   ·rw [← z] at hb;simp at hb
   ·exact ih z
theorem clos_ok {env:Env} {sc csc:Scope} (hE:EnvOk env sc) (hC:CompOk sc csc):∃ cl,ClosOk env csc cl:=by
 obtain ⟨cl,z1,z2,z3⟩:=closure_ok env csc.names [] (fun x hx=>hE.cell x (kind_of hE hC hx))
 refine ⟨cl,?_,fun x c hx=>?_,fun x hx=>?_⟩
 ·unfold closureFor
  simp only [bind_pure_comp]
  have e:(fun (x:Str×NameKind) (cs:List (Str×Addr))=>if (x.2==NameKind.free)=true then (do let c ← cellOf env x.1;pure (ForInStep.yield ((x.1,c)::cs))) else (pure (ForInStep.yield cs):Sem (ForInStep (List (Str×Addr))))) =
   (fun (x:Str×NameKind) (cs:List (Str×Addr))=>if (x.2==NameKind.free)=true then (fun c=>ForInStep.yield ((x.1,c)::cs)) <$> cellOf env x.1 else (pure (ForInStep.yield cs):Sem (ForInStep (List (Str×Addr))))):=by
   funext x cs;rfl
  first
  |exact z1
  |(rw [e] at z1;exact z1)
  |(rw [e] at z1;simpa using z1)
 ·refine (z2 x c (mem_of_look (by rw [look_eq];exact hx))).resolve_left fun z=>nomatch z
 ·obtain ⟨c,hc⟩:=z3 x (.inl hx)
  exact lookup_mem hc
theorem comp_env {env cenv:Env} {sc csc:Scope} {cl:List (Str×Addr)} (hE:EnvOk env sc) (hC:CompOk sc csc) (hc:ClosOk env csc cl) (h1:cenv.scope=relabel csc env) (h2:cenv.globals=env.globals) (h3:cenv.builtins=env.builtins) (h4:cenv.cells=cl):EnvOk cenv csc:=by
 have hk:∀ x,cenv.kindOf x=(csc.names.lookup x).map fun k=>if (k==NameKind.free&&env.scope.kind==.function&&env.kindOf x==some .cell) then NameKind.cell else k:=fun x=>by
  show cenv.scope.names.lookup x=_
  rw [h1];exact relabel_lookup
 refine ⟨by rw [h1];exact hC.kind,by rw [h2];exact hE.glb,by rw [h3];exact hE.blt,fun x k e=>?_,fun x e=>?_⟩
 ·have hm:=mem_of_look e
  refine ⟨?_,hC.dbg x k hm⟩
  rw [look_eq] at e
  rw [hk,e,Option.map_some]
  by_cases hcnd:(k==NameKind.free&&env.scope.kind==.function&&env.kindOf x==some .cell)=true
  ·rw [if_pos hcnd]
   simp only [Bool.and_eq_true,beq_iff_eq] at hcnd
   exact .inr ⟨hcnd.1.1,rfl⟩
  ·rw [if_neg hcnd];exact .inl rfl
 ·rw [h4]
  refine hc.all x ?_
  rw [hk] at e
  cases q:csc.names.lookup x with
 |none=>rw [q] at e;exact e.elim (fun z=>nomatch z) fun z=>nomatch z
 |some k=>
   rw [q,Option.map_some] at e
   have hm:=mem_of_look (by rw [look_eq];exact q)
   rcases hC.kinds x k hm with z|z|⟨z,_⟩
   ·subst z;exact e.elim (fun z=>nomatch z) fun z=>nomatch z
   ·subst z;exact e.elim (fun z=>nomatch z) fun z=>nomatch z
   ·subst z;exact hm
section
variable {prog:Program} {w:World} {A:Around} {E:Value→Shared→Prop} {R:Result→Shared→Prop} {s:Shared}
theorem compLoop_any {elt target iter:Expr} {ifs:List Expr} {scope:Scope} {pos:Pos} {it acc:Value} {env:Env} (I:Nat→Shared→Prop)
  (turn:∀ n s,I n s→wpAny (model prog w) A (pyNext it) (fun r s₁=>match r with
  |none=>R (.ok .next) s₁
  |some v=>wpAny (model prog w) A (letOwnedTupleGo target it v) (fun _ s₁'=>wpAny (model prog w) A (assign target env v) (fun _ s₂=>
     wpAny (model prog w) A (forIn ifs true fun c r=>if r=true then do let ok ← isTrue c env (eval c env);pure (ForInStep.yield ok) else pure (ForInStep.yield r)) (fun ok s₃=>
      if ok=true then wpAny (model prog w) A (eval elt env) (fun x s₄=>
       wpAny (model prog w) A (call (.builtin "list.append") [acc,x]) (fun _ s₅=>∃ m,m<n∧I m s₅) (notedBy (model prog w) A env fun e s'=>R (.error e) s') s₄) (notedBy (model prog w) A env fun e s'=>R (.error e) s') s₃
      else ∃ m,m<n∧I m s₃) (notedBy (model prog w) A env fun e s'=>R (.error e) s') s₂) (notedBy (model prog w) A env fun e s'=>R (.error e) s') s₁') (notedBy (model prog w) A env fun e s'=>R (.error e) s') s₁) (notedBy (model prog w) A env fun e s'=>R (.error e) s') s)
  (n:Nat) (h:I n s):
  codeAny (model prog w) A (.compLoop (.ListComp elt [⟨target,iter,ifs,0⟩] scope pos) 0 it acc env) R s:=by
 refine codeAny_loop rfl I (fun n s hI=>?_) n h
 show wpAny _ A ((compTurn (.ListComp elt [⟨target,iter,ifs,0⟩] scope pos) 0 it acc env).onRaise (fun x=>do noteFrame x env;theTreesLotGoes x)) _ _ s
 refine wpAny_noted ?_
 rw [compTurn_list]
 refine wpAny_bind (wpAny_standAt (wpAny_bind (wpAny_mono (turn n s hI) (fun r s₁ h₁=>?_) fun _ _ h'=>h')))
 cases r with
|none=>exact wpAny_pure h₁
|some v=>
  refine wpAny_bind (wpAny_mono h₁ (fun _ s₁' h₁'=>wpAny_bind (wpAny_mono h₁' (fun _ s₂ h₂=>wpAny_bind (wpAny_mono h₂ (fun ok s₃ h₃=>?_) fun _ _ h'=>h')) fun _ _ h'=>h')) fun _ _ h'=>h')
  cases ok with
 |false=>exact wpAny_pure ⟨rfl,h₃⟩
 |true=>
   exact wpAny_bind (wpAny_bind (wpAny_mono h₃ (fun x s₄ h₄=>wpAny_bind (wpAny_mono h₄ (fun _ s₅ h₅=>wpAny_pure (wpAny_pure ⟨rfl,h₅⟩)) fun _ _ h'=>h')) fun _ _ h'=>h'))
end
section
variable {g:Cx} {T:Tabs} {D:Addr} {C C' C₀ C₁:Cfg} {h h' h₀ h₁:Heap} {a a' a₀ a₁ a₂ a₃:Hp} {n m i:Nat} {σ σ' σ₀ σ₁:St} {sc csc:Scope} {vs vs' vs₁ vs₂:Vars} {A:Around} {env cenv:Env} {b c:Bool} {v u x y z w:AV} {e f t l r tgt elt iter:Expr} {p pos:Pos} {xs ys zs:List AV} {I:Addr→Prop} {it:Addr} {src:Src} {es ifs:List Expr} {body:List Stmt} {fl:Fl}
def AsC (g:Cx) (n:Nat) (sc:Scope) (tgt:Expr) (v:AV) (vs vs':Vars):Prop:=∀ (A:Around) (env:Env) (σ:St) (a:Hp) (w:Value),Room n A→EnvOk env sc→Ok g σ.C σ.h a→VR g σ env vs→VRep σ.C v w→∀ (Q:Unit→Shared→Prop) (E:Value→Shared→Prop),
 (∀ σ₁ h' t,Nx All true σ σ₁→(∀ y o,y≠env.locals→σ₁.h.get? y=some o→h'.get? y=some o)→(∃ o,h'.get? env.locals=some o)→Ok g σ₁.C h' a→VR g (σ₁.at σ₁.C h' t) env vs'→Q () (σ₁.at σ₁.C h' t).s)→wpAny g.M A (assign tgt env w) Q E σ.s
theorem StC {k:Str} {w:Value} (hk:look k sc.names=some .local) (hE:EnvOk env sc) (O:Ok g σ.C σ.h a) (V:VR g σ env vs) (r:VRep σ.C v w) {Q:Unit→Shared→Prop} {E:Value→Shared→Prop}
  (h:∀ h' t,(∀ y o,y≠env.locals→σ.h.get? y=some o→h'.get? y=some o)→(∃ o,h'.get? env.locals=some o)→Ok g σ.C h' a→VR g (σ.at σ.C h' t) env (setL k v vs)→Q () (σ.at σ.C h' t).s):wpAny g.M A (assign (.Name k p) env w) Q E σ.s:=by
 obtain ⟨m,F,hm⟩:=V.fr
 have hkind:env.kindOf k=some .local:=(hE.nm k _ hk).1.resolve_right fun z=>nomatch z.1
 refine wpAny_assign_Name (wpAny_storeName_local hkind F (fun h' hn hs=>?_) (by rw [hE.kind];rfl))
 have kp:=same_keeps hs
 have hl:∃ o,h'.get? env.locals=some o:=by obtain ⟨o,_,_,ho,_⟩:=hn;exact ⟨o,ho⟩
 refine h h' _ kp hl (O.poke (I:=fun y=>y=env.locals) (fun y hy=>.inl (hy▸V.own)) kp fun y hy=>hy▸hl) ⟨⟨_,hn,fun y v' e1 e2=>?_⟩,V.own,fun y c e1=>?_,V.inj⟩
 ·rw [look_setL] at e1
  by_cases hy:y=k
  ·rw [if_pos hy] at e1 ⊢;exact ⟨w,rfl,Option.some.inj e1▸r⟩
  ·rw [if_neg hy] at e1 ⊢;exact hm y v' e1 e2
 ·obtain ⟨q1,q2,q3,v0,⟨o,ho,hd⟩,q4⟩:=V.cells y c e1
  refine ⟨q1,q2,q3,v0,⟨o,kp c o q2 ho,hd⟩,fun v' e2 e3=>?_⟩
  rw [look_setL] at e2
  by_cases hy:y=k
  ·rw [hy,hkind] at e3;exact e3.elim (fun z=>nomatch z) fun z=>nomatch z
  ·rw [if_neg hy] at e2;exact q4 v' e2 e3
theorem AsC.name {k:Str} (hk:look k sc.names=some .local):AsC g n sc (.Name k p) v vs (setL k v vs):=fun _ _ σ _ _ _ hE O V r _ _ h=>StC hk hE O V r fun h' t=>h σ h' t .refl
theorem AsC.pair {j:Nat} {k k':Str} {p' q:Pos} (h1:look k sc.names=some .local) (h2:look k' sc.names=some .local):AsC g n sc (.Tuple [.Name k p,.Name k' p'] j q) (.tup [x,y]) vs (setL k' y (setL k x vs)):=fun A env σ a w hR hE O V r Q E h=>by
 rw [arm_assign_Tuple]
 refine wpAny_bind (wpAny_standAt (wpAny_bind (wpAny_holding (Run.unpack (xs:=[x,y]) hR O rfl r _ _ fun us σ₁ x₁ O₁ r₁=>?_))))
 obtain ⟨u1,u2,rfl,ru,rw'⟩:=r₁.two
 show wpAny _ _ (do holding [u2] (assign (.Name k p) env u1);(do holding [] (assign (.Name k' p') env u2);pure ())) Q E σ₁.s
 refine wpAny_bind (wpAny_holding (StC h1 hE O₁ (V.ext x₁) ru fun h₂ t₂ k₂ l₂ O₂ V₂=>?_))
 refine wpAny_bind (wpAny_holding (StC (σ:=σ₁.at σ₁.C h₂ t₂) h2 hE O₂ V₂ rw' fun h₃ t₃ k₃ l₃ O₃ V₃=>wpAny_pure ?_))
 exact h σ₁ h₃ t₃ x₁ (fun y o hy e=>k₃ y o hy (k₂ y o hy e)) l₃ O₃ V₃
def TcR (g:Cx) (n:Nat) (sc:Scope) (vs:Vars) (ifs:List Expr) (a:Hp) (b:Bool) (a':Hp):Prop:=∀ A env σ,Room n A→EnvOk env sc→Ok g σ.C σ.h a→VR g σ env vs →
 Run g A σ (forIn ifs true fun c r=>if r=true then do let ok ← isTrue c env (eval c env);pure (ForInStep.yield ok) else pure (ForInStep.yield r)) (fun _ u=>u=b) a'
theorem TcR.nil:TcR g n sc vs [] a true a:=fun _ _ σ _ _ O _ _ _ h=>wpAny_pure (h _ σ .refl O rfl)
theorem TcR.one (H:TvR g n sc vs e a b a'):TcR g n sc vs [e] a b a':=fun A env σ hR hE O V Q E h=>wpAny_tests_one (H A env σ hR hE O V Q E h)
inductive CoL (g:Cx) (n:Nat) (sc:Scope) (tgt elt:Expr) (ifs:List Expr) (src:Src) (a':Hp):Nat→Nat→Vars→Hp→List AV→Prop
|done {i:Nat} {vs:Vars}:srcAt a' i src=some none→CoL g n sc tgt elt ifs src a' 0 i vs a' []
|yes {k i:Nat} {x v:AV} {vs vs₁:Vars} {a a₂ a₃:Hp} {ys:List AV}:srcAt a i src=some (some x)→AsC g n sc tgt x vs vs₁→TcR g n sc vs₁ ifs a true a₂→EvR g n sc vs₁ elt a₂ v a₃→CoL g n sc tgt elt ifs src a' k (i+1) vs₁ a₃ ys→CoL g n sc tgt elt ifs src a' (k+1) i vs a (v::ys)
|no {k i:Nat} {x:AV} {vs vs₁:Vars} {a a₂:Hp} {ys:List AV}:srcAt a i src=some (some x)→AsC g n sc tgt x vs vs₁→TcR g n sc vs₁ ifs a false a₂→CoL g n sc tgt elt ifs src a' k (i+1) vs₁ a₂ ys→CoL g n sc tgt elt ifs src a' (k+1) i vs a ys
theorem CoL.split {k:Nat} (L:CoL g n sc tgt elt ifs src a' k i vs a ys):(srcAt a i src=some none∧a=a'∧ys=[])∨∃ j x vs₁ b a₂,k=j+1∧srcAt a i src=some (some x)∧AsC g n sc tgt x vs vs₁∧TcR g n sc vs₁ ifs a b a₂ ∧
  (bif b then ∃ v a₃ zs,ys=v::zs∧EvR g n sc vs₁ elt a₂ v a₃∧CoL g n sc tgt elt ifs src a' j (i+1) vs₁ a₃ zs else CoL g n sc tgt elt ifs src a' j (i+1) vs₁ a₂ ys):=by
 cases L with
|done h=>exact .inl ⟨h,rfl,rfl⟩
|yes h1 h2 h3 h4 h5=>exact .inr ⟨_,_,_,true,_,rfl,h1,h2,h3,_,_,_,rfl,h4,h5⟩
|no h1 h2 h3 h4=>exact .inr ⟨_,_,_,false,_,rfl,h1,h2,h3,h4⟩
theorem CoL.len {k:Nat} (L:CoL g n sc tgt elt ifs src a' k i vs a ys):ys.length≤k:=by
 induction L with
|done _=>exact Nat.le_refl _
|yes _ _ _ _ _ ih=>exact Nat.succ_le_succ ih
|no _ _ _ _ ih=>exact Nat.le_succ_of_le ih
def CInv (g:Cx) (n:Nat) (sc:Scope) (cenv:Env) (tgt elt:Expr) (ifs:List Expr) (src:Src) (it:Addr) (I:Addr→Prop) (D:Addr) (σ₀:St) (zs:List AV) (a':Hp) (k:Nat) (s:Shared):Prop:=
 ∃ i vs a ys ws σ,s=σ.s∧Ok g σ.C σ.h a∧Nx All true σ₀ σ∧VR g σ cenv vs∧ItAt σ.C σ.h it I i src∧PrvI σ.C I∧σ.C.own D=some .prv∧(∃ us k,σ.h.get? D=some (lstObj us k)∧VReps σ.C ys us)∧CoL g n sc tgt elt ifs src a' k i vs a ws∧zs=ys++ws∧ys.length+k≤cap
theorem compLoop_run {k:Nat} {R:Result→Shared→Prop} {s₁:Shared} (hR:Room n A) (hE:EnvOk cenv csc) (hnt:needsTup src=false) (hN:NotIn σ₀.C σ₀.h (fun y=>I y∨y=D∨y=cenv.locals)) (hDI:¬ I D) (hDL:D≠cenv.locals) (hL:CInv g n csc cenv tgt elt ifs src it I D σ₀ zs a' k s₁)
  (hEnd:∀ σ h' us kk,Ok g σ.C σ.h a'→Nx All true σ₀ σ→σ.C.own cenv.locals=some .lcl→PrvI σ.C I→σ.C.own D=some .prv→(∃ m,σ.h.Ns cenv.locals m)→σ.h.get? D=some (lstObj us kk)→VReps σ.C zs us→zs.length≤cap→(∀ y o,¬ I y→σ.h.get? y=some o→h'.get? y=some o)→R (.ok .next) { σ.s with heap:=h' }):
  codeAny g.M A (.compLoop (.ListComp elt [⟨tgt,iter,ifs,0⟩] csc pos) 0 (.ref it) (.ref D) cenv) R s₁:=by
 refine compLoop_any (CInv g n csc cenv tgt elt ifs src it I D σ₀ zs a') ?_ k hL
 rintro k _ ⟨i,vs₂,a₂,ys,ws,σ₂,rfl,O₂,x₂,V₂,It₂,hI₂,hA₂,⟨us,kk,hD₂,hus⟩,L₂,rfl,hz⟩
 rcases L₂.split with ⟨e1,rfl,rfl⟩|⟨j,x,vs₃,b,a₃,rfl,e1,e2,e3,fin⟩
 ·refine It₂.stop hR.handled O₂ e1 fun h' kp=>?_
  rw [List.append_nil] at hEnd
  exact hEnd σ₂ h' us kk O₂ x₂ V₂.own hI₂ hA₂ (by obtain ⟨m,F,_⟩:=V₂.fr;exact ⟨m,F⟩) hD₂ hus (Nat.le_trans (Nat.le_add_right _ _) hz) kp
 ·refine It₂.item (tgt:=tgt) hI₂ O₂ e1 (fun z=>nomatch hnt.symm.trans z) (fun u s₁ q=>q) fun u σ₃ S₃ ru It₃=>?_
  have hI₃:=S₃.prv hI₂
  have x₃:=S₃.nx x₂ fun y hy=>hN y (.inl hy)
  have hA₃:σ₃.C.own D=some .prv:=(S₃.own D).trans hA₂
  have hD₃:=S₃.keep D _ hDI hD₂
  have keepP:∀ {σ σ':St},Nx All true σ σ'→∀ y o,σ.C.own y=some .prv→σ.h.get? y=some o→σ'.h.get? y=some o:=fun x y o e1 e2=>x.ext.keep y o e2 (nmut_prv e1) (.inl rfl)
  refine e2 _ cenv σ₃ a₂ u hR hE S₃.ok (S₃.vr hI₂ V₂) ru _ _ fun σ₄ h₄ t₄ x₄ k₄ l₄ O₄ V₄=>?_
  have hI₄:PrvI σ₄.C I:=fun y hy=>x₄.ext.prv y (hI₃ y hy)
  have hA₄:=x₄.ext.prv D hA₃
  have hD₄:=k₄ D _ hDL (keepP x₄ D _ hA₃ hD₃)
  have It₄:ItAt σ₄.C h₄ it I (i+1) src:=It₃.keep (fun y o hy e=>k₄ y o (fun z=>nomatch ((z▸hI₄ y hy).symm.trans V₄.own)) (keepP x₄ y o (hI₃ y hy) e)) fun _ _ _ r=>r.mono x₄.more
  have X₄:Nx All true σ₀ (σ₄.at σ₄.C h₄ t₄):=(x₃.trans x₄).to ((x₃.trans x₄).ext.poke (I:=fun y=>y=cenv.locals) (fun y hy=>hN y (.inr (.inr hy))) k₄)
  refine e3 _ cenv (σ₄.at σ₄.C h₄ t₄) hR hE O₄ V₄ _ _ fun w σ₅ x₅ O₅ r₅=>?_
  subst r₅
  have hI₅:PrvI σ₅.C I:=fun y hy=>x₅.ext.prv y (hI₄ y hy)
  have hA₅:=x₅.ext.prv D hA₄
  have hD₅:=keepP x₅ D _ hA₄ hD₄
  have It₅:ItAt σ₅.C σ₅.h it I (i+1) src:=It₄.keep (fun y o hy e=>keepP x₅ y o (hI₄ y hy) e) fun _ _ _ r=>r.mono x₅.more
  have us₅:=((hus.mono S₃.more).mono x₄.more).mono x₅.more
  cases w with
 |false=>
   rw [if_neg Bool.false_ne_true]
   exact ⟨j,Nat.lt_succ_self _,i+1,vs₃,a₃,ys,ws,σ₅,rfl,O₅,X₄.trans x₅,V₄.ext x₅,It₅,hI₅,hA₅,⟨us,kk,hD₅,us₅⟩,fin,rfl,Nat.le_of_succ_le hz⟩
 |true=>
   rw [if_pos rfl]
   obtain ⟨v,a₅,zs,rfl,e4,L₅⟩:=fin
   refine e4 _ cenv σ₅ hR hE O₅ (V₄.ext x₅) _ _ fun u' σ₆ x₆ O₆ r₆=>?_
   have hI₆:PrvI σ₆.C I:=fun y hy=>x₆.ext.prv y (hI₅ y hy)
   have hA₆:=x₆.ext.prv D hA₅
   have X₆:=(X₄.trans x₅).trans x₆
   have us₆:=us₅.mono x₆.more
   refine append_new (s:=σ₆.s) (keepP x₆ D _ hA₅ hD₅) (by rw [us₆.length];exact Nat.le_trans (Nat.le_add_right _ _) hz) fun h₇ k₇ d₇=>?_
   have V₆:=(V₄.ext x₅).ext x₆
   refine ⟨j,Nat.lt_succ_self _,i+1,vs₃,a₅,ys++[v],zs,σ₆.at σ₆.C h₇ σ₆.s.toks,rfl,O₆.poke (I:=fun y=>y=D) (fun y hy=>hy▸.inr hA₆) k₇ fun y hy=>hy▸⟨_,d₇⟩,X₆.to (X₆.ext.poke (I:=fun y=>y=D) (fun y hy=>hN y (.inr (.inl hy))) k₇),
    V₆.map (fun y o e z=>⟨e,k₇ y o (fun q=>nomatch (q▸e).symm.trans hA₆) z⟩) fun x v e=>⟨v,e,fun _ r=>r⟩,It₅.keep (fun y o hy e=>k₇ y o (fun z=>hDI (z▸hy)) (keepP x₆ y o (hI₅ y hy) e)) fun _ _ _ r=>r.mono x₆.more,hI₆,hA₆,⟨us++[u'],kk+1,d₇,us₆.append (.cons r₆ .nil)⟩,L₅,by rw [List.append_assoc];rfl,?_⟩
   rw [List.length_append,List.length_singleton,Nat.add_assoc,Nat.add_comm 1]
   exact hz
end
section
variable {g:Cx} {T:Tabs} {D:Nat→Prop} {C C' C₀ C₁:Cfg} {h h' h₀ h₁:Heap} {a a' a₀ a₁ a₂ a₃:Hp} {n m i:Nat} {σ σ' σ₀ σ₁:St} {sc csc:Scope} {vs vs' vs₁ vs₂:Vars} {A:Around} {env cenv:Env} {b c:Bool} {v u x y z w:AV} {e f t l r tgt elt iter:Expr} {p pos:Pos} {xs ys zs:List AV} {I:Addr→Prop} {it:Addr} {src:Src} {es ifs:List Expr} {body:List Stmt} {fl:Fl} {o:AObj}
theorem Ok.junk (O:Ok g C h a) {L:Addr} (h1:C.own L=none) (h2:C.fz L=none) (k:∀ y o,y≠L→h.get? y=some o→h'.get? y=some o):Ok g C h' a where
 fz:=fun x o e=>⟨k x o (fun z=>nomatch (z▸e).symm.trans h2) (O.fz x o e).1,(O.fz x o e).2⟩
 base:=O.base
 live:=fun x u e=>by obtain ⟨o,z⟩:=O.live x u e;exact ⟨o,k x o (fun q=>nomatch (q▸e).symm.trans h1) z⟩
 N:=O.N
 at_:=fun n o p po e1 e2=>by obtain ⟨q0,q1,q2⟩:=O.at_ n o p po e1 e2;exact ⟨q0,q1,q2.keep fun o e=>k _ o (fun z=>nomatch (z▸q1).symm.trans h1) e⟩
 dv:=O.dv
open Classical in
theorem Ok.accFrame (O:Ok g C h a) {D L:Addr} (hDL:D≠L) (hD:h.get? D=none∧∃ o,h'.get? D=some o) (hL:h.get? L=none∧∃ o,h'.get? L=some o) (k:∀ x o,h.get? x=some o→h'.get? x=some o):
  ∃ C',Ok g C' h' a∧Ext All true C h C' h'∧C'.own D=some .prv∧C'.own L=some .lcl:=by
 obtain ⟨q1,q2⟩:=O.mark (m:=fun y=>if y=D then some .prv else if y=L then some .lcl else none) (h':=h') (fun y u e=>by
  split at e
  ·rename_i z;rw [z];exact hD
  ·split at e
   ·rename_i z;rw [z];exact hL
   ·cases e) k
 exact ⟨_,q1,q2,or_some (if_pos rfl),or_some ((if_neg fun z=>hDL z.symm).trans (if_pos rfl))⟩
theorem pyIter_self (It:ItAt σ.C σ.h it I i src) (hn:needsTup src=false) {Q:Value→Shared→Prop} {E:Value→Shared→Prop} (h:Q (.ref it) σ.s):wpAny g.M A (pyIter (.ref it)) Q E σ.s:=by
 cases src with
|rng=>exact wpAny_pyIter_rangeiter It.1 h
|lst=>obtain ⟨_,_,h2,_⟩:=It;exact wpAny_pyIter_listiter h2 h
|txt=>obtain ⟨_,h2,_⟩:=It;exact wpAny_pyIter_striter_ascii h2 h
|enum=>cases hn
|zip=>cases hn
def CoR (g:Cx) (n:Nat) (sc csc:Scope) (vs:Vars) (elt tgt iter:Expr) (ifs:List Expr) (a:Hp) (zs:List AV) (a':Hp):Prop:=
 compOk sc csc=true∧∃ src a₁ k,ItR g n sc vs iter a src a₁∧needsTup src=false∧k≤cap∧CoL g n csc tgt elt ifs src a' k 0 (freeVars csc vs) a₁ zs
theorem CoR.run {use:Option (Value→Sem Unit)} (H:CoR g n sc csc vs elt tgt iter ifs a zs a') (ho:itemsO o=some zs) (hR:Room n A) (hE:EnvOk env sc) (O:Ok g σ.C σ.h a) (V:VR g σ env vs) {Q:Value→Shared→Prop} {E:Value→Shared→Prop}
  (h:∀ σ₂ D L,Nx All true σ σ₂→Ok g σ₂.C σ₂.h (a'++[o])→VRep σ₂.C (.loc a'.length .root) (.ref D)→σ₂.C.own L=some .lcl→NotIn σ.C σ.h (fun y=>y=L)→(∃ m,σ₂.h.Ns L m)→compPost g.M A E use Q (.ref D) L (.ok .next) σ₂.s):
  wpAny g.M A (comprehension (.ListComp elt [⟨tgt,iter,ifs,0⟩] csc pos) csc env p (newList []) false (eval iter env) use) Q E σ.s:=by
 obtain ⟨hck,src,a₁,k,H,hnt,hk,CL⟩:=H
 have hC:=compOk_inv hck
 obtain ⟨cl,hcl⟩:=clos_ok hE hC
 have hcell0:∀ x∈csc.names,x.2≠.cell:=fun x hx z=>by
  rcases hC.kinds x.1 x.2 hx with q|q|⟨q,_⟩<;>(rw [z] at q;cases q)
 refine wpAny_comprehension_free (g:=⟨tgt,iter,ifs,0⟩) (gs:=[]) rfl (fun x=>folded_plain H.1) hcl.eq hC.kind (fun x hx hl=>?_) ?_
 ·have:=hC.self x.1 x.2 hx
  rw [look_eq] at this
  rw [this,hl]
 ·refine H.2 A env σ _ E hR hE O V fun it I σ₁ x₁ O₁ It₁ hI₁ hN₁=>?_
  refine wpAny_newObj_type (wpAny_newFunctionEnv hcell0 (fun y hy=>nomatch hy) (fun h₃ hns₃ hsb₃=>?_) hC.kind)
  dsimp only at hns₃ hsb₃ ⊢
  have hsz:(σ₁.h.push { cls:=.type "list",dict:=none,data:=.seq ([]:List Value).toArray }).objs.size=σ₁.h.objs.size+1:=Heap.size_push ..
  generalize hL:(σ₁.h.push { cls:=.type "list",dict:=none,data:=.seq ([]:List Value).toArray }).objs.size=L at hns₃ hsb₃ ⊢ hsz
  have hDL:σ₁.h.objs.size≠L:=hsz▸Ne.symm (Nat.succ_ne_self _)
  have kL:∀ y o,y≠L→(σ₁.h.push { cls:=.type "list",dict:=none,data:=.seq ([]:List Value).toArray }).get? y=some o→h₃.get? y=some o:=fun y o hy e=>same_keeps hsb₃ y o hy (Heap.get?_push_of_some _ e)
  have k₃:∀ y o,σ₁.h.get? y=some o→h₃.get? y=some o:=fun y o e=>kL y o (hsz▸Nat.ne_of_lt (Nat.lt_succ_of_lt (Heap.lt_size e))) (Heap.get?_push_of_some _ e)
  have hD₃:h₃.get? σ₁.h.objs.size=some (lstObj [] 0):=kL _ _ hDL (Heap.get?_push_size _ rfl)
  have hL₃:∃ o,h₃.get? L=some o:=by obtain ⟨o,_,_,ho,_⟩:=hns₃;exact ⟨o,ho⟩
  have hL1:σ₁.h.get? L=none:=hsz▸size_none _ 1
  obtain ⟨C₃,O₃,x₃,oD,oL⟩:=O₁.accFrame hDL ⟨none_of_size _,_,hD₃⟩ ⟨hL1,hL₃⟩ k₃
  have nD:NotIn σ.C σ.h (fun y=>y=σ₁.h.objs.size∨y=L):=NotIn.back x₁.ext O fun y hy=>hy.elim (fun z=>z▸⟨none_of_size _,O₁.own_none (none_of_size _)⟩) fun z=>z▸⟨hL1,O₁.own_none hL1⟩
  have hN:NotIn σ.C σ.h (fun y=>I y∨y=σ₁.h.objs.size∨y=L):=fun y hy=>hy.elim (hN₁ y) (nD y)
  have hDI:¬ I σ₁.h.objs.size:=fun z=>by obtain ⟨o,q⟩:=O₁.live _ _ (hI₁ _ z);exact nomatch (none_of_size _).symm.trans q
  have V₁:=V.ext x₁
  have hEc:EnvOk (compEnvC csc cl L env) csc:=comp_env hE hC hcl rfl rfl rfl rfl
  have X₃:Nx All true σ (σ₁.at C₃ h₃ σ₁.s.toks):=x₁.trans (Nx.at x₃)
  have V₃:=V.ext X₃
  have Vc:VR g (σ₁.at C₃ h₃ σ₁.s.toks) (compEnvC csc cl L env) (freeVars csc vs):=by
   refine ⟨⟨_,hns₃,fun x v hx hk=>?_⟩,oL,fun x c hc=>?_,fun x y c hx hy=>V.inj x y c (hcl.from_ x c hx).2 (hcl.from_ y c hy).2⟩
   ·obtain ⟨_,z2⟩:=look_freeVars hx
    exact (hEc.nm x _ z2).1.elim (fun q=>nomatch q.symm.trans hk) fun q=>nomatch q.2.symm.trans hk
   ·obtain ⟨f1,f2⟩:=hcl.from_ x c hc
    obtain ⟨q1,q2,q3,v0,q4,q5⟩:=V₃.cells x c f2
    refine ⟨q1,(fun z=>nomatch ((V₁.cells x c f2).1).symm.trans ((congrArg σ₁.C.own z).trans (O₁.own_none hL1))),q3,v0,q4,fun v hv hk=>q5 v (look_freeVars hv).1 (kind_of hE hC f1)⟩
  have It₃:ItAt C₃ h₃ it I 0 src:=It₁.keep (fun y o _ e=>k₃ y o e) fun _ _ _ r=>r.mono x₃.more
  have loop:codeAny g.M A (.compLoop (.ListComp elt [⟨tgt,iter,ifs,0⟩] csc pos) 0 (.ref it) (.ref σ₁.h.objs.size) (compEnvC csc cl L env)) (compPost g.M A E use Q (.ref σ₁.h.objs.size) L) (σ₁.at C₃ h₃ σ₁.s.toks).s:=by
   refine compLoop_run (σ₀:=σ) (zs:=zs) (a':=a') (I:=I) (k:=k) hR hEc hnt hN hDI hDL ⟨0,freeVars csc vs,a₁,[],zs,σ₁.at C₃ h₃ σ₁.s.toks,rfl,O₃,X₃,Vc,It₃,fun y hy=>x₃.prv y (hI₁ y hy),oD,⟨[],0,hD₃,.nil⟩,CL,rfl,by rw [List.length_nil,Nat.zero_add];exact hk⟩ ?_
   intro σ₄ h₅ us kk O₄ x₄ oL₄ hI₄ oD₄ ⟨m,F⟩ hD₄ rs₄ hl₄ kp
   have lp:OwnLP σ₄.C (fun y=>I y∨y=σ₁.h.objs.size):=fun y hy=>.inr (hy.elim (hI₄ y) fun z=>z▸oD₄)
   have nID:NotIn σ.C σ.h (fun y=>I y∨y=σ₁.h.objs.size):=fun y hy=>hN y (hy.elim .inl fun z=>.inr (.inl z))
   have kp':∀ y o,¬ (I y∨y=σ₁.h.objs.size)→σ₄.h.get? y=some o→h₅.get? y=some o:=fun y o hy e=>kp y o (fun z=>hy (.inl z)) e
   have fzD:σ₄.C.fz σ₁.h.objs.size=none:=by
    cases q:σ₄.C.fz σ₁.h.objs.size with
   |none=>rfl
   |some o=>exact nomatch (O₄.fz _ _ q).2.symm.trans oD₄
   have oL':¬ (I L∨L=σ₁.h.objs.size):=fun z=>z.elim (fun z=>nomatch (hI₄ L z).symm.trans oL₄) fun z=>hDL z.symm
   have V':=itemsO_view (n:=a'.length) ho
   obtain ⟨C₆,O₆,x₆,r₆,M₆,ow₆⟩:=(O₄.drop lp kp').new1G (x₄.ext.drop nID kp') (x:=σ₁.h.objs.size) (h':=h₅) (Cfg.drop_in (.inr rfl)) fzD (hN _ (.inr (.inl rfl))).1 (hN _ (.inr (.inl rfl))).2 ⟨_,kp _ _ hDI hD₄⟩ (fun _ _ e=>e) V'.1 (fun p po' e=>V'.2 p po' e)
    (fun C' M e=>⟨us,kk,by rw [e];exact kp _ _ hDI hD₄,(rs₄.mono Cfg.drop_more).mono M,hl₄⟩)
   exact h (σ₄.at C₆ h₅ σ₄.s.toks) _ L (x₄.to x₆) O₆ r₆ ((ow₆ L fun z=>hDL z.symm).trans ((Cfg.drop_out oL').trans oL₄)) (fun y hy=>hN y (.inr (.inr hy))) ⟨m,F.at fun o e=>kp _ o (fun z=>oL' (.inl z)) e⟩
  exact codeAny_compStart_list loop (pyIter_self (σ:=σ₁.at C₃ h₃ σ₁.s.toks) It₃ hnt loop)
theorem EvR.comp (H:CoR g n sc csc vs elt tgt iter ifs a zs a') (ho:itemsO o=some zs):EvR g n sc vs (.ListComp elt [⟨tgt,iter,ifs,0⟩] csc pos) a (.loc a'.length .root) (a'++[o]):=fun A env σ hR hE O V Q E h=>by
 rw [eval_ListComp]
 refine H.run (use:=Option.none) ho hR hE O V fun σ₂ D L x₂ O₂ r₂ oL nL ⟨m,F⟩=>⟨m,F,fun h₃ hs₃=>?_⟩
 have kp:=same_keeps hs₃
 exact h _ (σ₂.at (σ₂.C.drop fun y=>y=L) h₃ σ₂.s.toks) (x₂.to (x₂.ext.drop nL kp)) (O₂.drop (I:=fun y=>y=L) (fun y hy=>hy▸.inl oL) kp) (r₂.mono Cfg.drop_more)
theorem comp_use (elt:Expr) (gens:List Comprehension) (csc:Scope) (cpos:Pos) (env:Env) (use:Value→Sem Unit):evalThenUse (.ListComp elt gens csc cpos) env use =
  (do let _ ← comprehension (.ListComp elt gens csc cpos) csc env (firstIterPos gens cpos) (newList []) (firstAsync gens) (firstIter gens env) (some use)):=rfl
theorem SR.asgC {k:Str} {np cpos:Pos} (hk:StN sc k) (H:CoR g n sc csc vs elt tgt iter ifs a zs a') (ho:itemsO o=some zs):SR g n D sc vs (.Assign [.Name k np] (.ListComp elt [⟨tgt,iter,ifs,0⟩] csc cpos) pos) a .next (setL k (.loc a'.length .root) vs) (a'++[o]):=fun A env σ hR hE O V Q E h=>by
 rw [PyProof.Rows.exec_Assign]
 refine wpAny_bind (wpAny_standAt ?_)
 obtain ⟨b,hb'⟩:∃ b:Bool,swapsWithSole [.Name k np] (.ListComp elt [⟨tgt,iter,ifs,0⟩] csc cpos) pos.line env=pure b:=⟨_,rfl⟩
 rw [hb']
 refine wpAny_bind (wpAny_pure ?_)
 cases b with
|true=>
  rw [if_pos rfl,comp_use]
  refine wpAny_bind (wpAny_bind (H.run ho hR hE O V fun σ₂ da L x₂ O₂ r₂ oL nL ⟨m,F⟩=>?_))
  show wpAny _ A (assign (.Name k np) env (.ref da)) _ _ _
  have o₂:(σ₂.C.drop fun y=>y=L).own L=none:=Cfg.drop_in rfl
  have X₂:Nx All true σ (σ₂.at (σ₂.C.drop fun y=>y=L) σ₂.h σ₂.s.toks):=x₂.to (x₂.ext.drop nL fun _ _ _ e=>e)
  refine wpAny_assign_Name (RunA.name (σ:=σ₂.at (σ₂.C.drop fun y=>y=L) σ₂.h σ₂.s.toks) hE (O₂.drop (I:=fun y=>y=L) (fun y hy=>hy▸.inl oL) fun _ _ _ e=>e) (V.ext X₂) hk (r₂.mono Cfg.drop_more) _ _ fun σ₃ x₃ O₃ V₃=>?_)
  obtain ⟨oo,hoo⟩:∃ o,σ₂.h.get? L=some o:=by obtain ⟨o,_,_,ho,_⟩:=F;exact ⟨o,ho⟩
  have o₃:=x₃.ext.free L oo hoo o₂
  refine ⟨m,F.at fun o e=>x₃.ext.keep _ o e (nmut_none o₂) (.inr (nlcl_none o₂)),fun h₄ hs₄=>?_⟩
  have kp:=same_keeps hs₄
  have fz:σ₃.C.fz L=none:=by
   cases q:σ₃.C.fz L with
  |none=>rfl
  |some o'=>
    rcases x₃.ext.fzn L o' q with z|z|z
    ·exact nomatch (O₂.fz L o' z).2.symm.trans oL
    ·exact absurd z (nmut_none o₂)
    ·exact nomatch hoo.symm.trans z
  have X₃:=(X₂.wD (D:=D) (b:=false)).trans x₃.toD
  exact wpAny_pure (wpAny_pure (h .next (σ₃.at σ₃.C h₄ σ₃.s.toks) .next (X₃.to (X₃.ext.poke nL kp)) (O₃.junk o₃ fz kp) (V₃.map (fun y o e z=>⟨e,kp y o (fun q=>nomatch (q▸e).symm.trans o₃) z⟩) fun x v e=>⟨v,e,fun _ r=>r⟩)))
|false=>
  rw [if_neg Bool.false_ne_true]
  refine wpAny_bind (EvR.comp (pos:=cpos) H ho A env σ hR hE O V _ E fun u σ₁ x₁ O₁ r₁=>?_)
  refine wpAny_bind (m:=swappedStores _ _ _) (wpAny_pure (a:=Option.none) ?_)
  unfold assignStores
  refine wpAny_bind ?_
  show wpAny _ A (assign (.Name k np) env u) _ E _
  exact wpAny_assign_Name (RunA.name hE O₁ (V.ext x₁) hk r₁ _ _ fun σ₂ x₂ O₂ V₂=>wpAny_pure (h .next σ₂ .next (x₁.wD.trans x₂.toD) O₂ V₂))
end
theorem paired_eq {α:Type} {l₁ l₂:List α} (h:Paired (fun a b=>b=a) l₁ l₂):l₂=l₁:=by
 induction h with
|nil=>rfl
|cons h _ r=>rw [h,r]
noncomputable def keepK (c:Str):Value→Bool
|.str k _=>k != c
|_=>true
theorem strs_filter {c:Str} {vs:List Value} {ks:List Str} (h:StrsAre vs ks):StrsAre (vs.filter (keepK c)) (ks.filter fun k=>!strB k c):=by
 induction h with
|nil=>exact .nil
|cons x t r ih=>
  have e:keepK c (.str x t)=!strB x c:=by show (x != c)=_;rw [strB_beq];rfl
  rw [List.filter_cons,List.filter_cons,e]
  cases !strB x c
  ·exact ih
  ·exact .cons x t ih
section
variable {g:Cx} {T:Tabs} {D D':Nat→Prop} {C C' C₀ C₁:Cfg} {h h' h₀ h₁:Heap} {a a' a₀ a₁ a₂ a₃:Hp} {n m i:Nat} {σ σ' σ₀ σ₁:St} {sc csc:Scope} {vs vs' vs₁ vs₂:Vars} {A:Around} {env cenv:Env} {b c:Bool} {v u x y z w:AV} {e f t l r tgt elt iter:Expr} {p pos:Pos} {xs ys zs:List AV} {src:Src} {es ifs:List Expr} {body els:List Stmt} {fl:Fl} {o:AObj}
theorem EvR.keys {y c:Str} {kk:Nat} {q:Part} {es:SS} {p1 p2 p3 p4 p5:Pos} (hck:(compOk sc csc&&isKind .local (look y csc.names))=true) (hn:noSet iter=true) (H:EvR g n sc vs iter a (.loc m q) a') (ev:viewAt a' m q=some (.dictS es)) (hz:Nat.ble es.length cap=true):
  EvR g n sc vs (.ListComp (.Name y p1) [⟨.Name y p2,iter,[.Compare (.Name y p3) [.NotEq] [.Constant (.str c) kk p4] p5],0⟩] csc pos) a (.loc a'.length .root) (a'++[.txs ((es.map (·.1)).filter fun k=>!strB k c)]):=fun A env σ hR hE O V Q E h=>by
 rw [Bool.and_eq_true] at hck
 have hC:=compOk_inv hck.1
 have hy:=isKind_iff hck.2
 have hz:=Nat.le_of_ble_eq_true hz
 obtain ⟨cl,hcl⟩:=clos_ok hE hC
 have hcell0:∀ x∈csc.names,x.2≠.cell:=fun x hx z=>by
  rcases hC.kinds x.1 x.2 hx with q|q|⟨q,_⟩<;>(rw [z] at q;cases q)
 have hlook:csc.names.lookup y=some .local:=by rw [← look_eq];exact hy
 have hdbg:=(hC.dbg y _ (mem_of_look hy)).1
 refine wpAny_ListComp_free (keepK c) (fun a b=>b=a) hcl.eq hcell0 hC.kind (fun x hx hl=>?_) hlook ?_ (fun x=>folded_plain hn)
 ·have:=hC.self x.1 x.2 hx
  rw [look_eq] at this
  rw [this,hl]
 ·refine H A env σ hR hE O V _ E fun u σ₁ x₁ O₁ r₁=>?_
  obtain ⟨rfl,_⟩:=r₁.inv_loc
  obtain ⟨_,_,kvs,z1,z2,z3⟩:=O₁.part ev
  obtain ⟨ep,hat⟩:=z1.dictAt
  obtain ⟨k1,k2⟩:=keys_ok z2
  obtain ⟨oI,St,hit,W,st⟩:=(kdl_dict (prog:=g.prog) (w:=g.w) (knd:=PySem.strKind g.prog g.w) (kvs:=kvs) (ep:=ep) z3).iter A σ₁.s hR.handled hat
  refine hit _ _ ⟨_,_,_,_,_,_,rfl,W,?_,st,fun b hb=>?_,?_,?_⟩
  ·rw [sizeLine_eq,z2.length];unfold cap at hz;omega
  ·show b<(σ₁.h.push oI).objs.size
   rw [Heap.size_push]
   rcases List.mem_cons.mp hb with rfl|hb
   ·exact Nat.lt_succ_self _
   ·rw [List.mem_singleton.mp hb]
    obtain ⟨o,ho,_⟩:=Heap.dictOf_iff.mp z1
    exact Nat.lt_succ_of_lt (Heap.lt_size ho)
  ·have ld:∀ (c':Addr) (i:Nat) (v:Value) (s₃:Shared) (m₃:Str→Option Value) (p:Pos) (E':Value→Shared→Prop) (Q':Value→Shared→Prop),s₃.heap.Ns c' m₃→m₃ y=some v→Q' v s₃→wpAny g.M A (eval (.Name y p) (compEnvC csc cl c' env)) Q' E' s₃:=fun c' i v s₃ m₃ p E' Q' hn hm hq=>
    wpAny_Name (wpAny_loadName_local hC.kind (lookup_relabel_local hlook) hn hm hq) hdbg
   refine ⟨fun c' i v s₃ m₃ E' _ hP hn hm hk _=>?_,fun c' i v s₃ m₃ E' _ hP hp hn hm hk _=>?_⟩
   ·obtain ⟨k,x,_,hkv⟩:=hP
    obtain ⟨t,rfl⟩:=Value.isStrOf_shape hkv
    refine wpAny_tests_one ?_
    rw [isTrue_Compare1]
    refine wpAny_bind (ld c' i _ s₃ m₃ p3 _ _ hn hm (wpAny_bind (wpAny_holding ?_)))
    rw [markedBehindIn_of_false rfl]
    refine Calls.Constant_str ?_
    refine wpAny_bind (wpAny_standAt (wpAny_bind (wpAny_operate' (PyProof.Rows.ne_str ?_))))
    exact wpAny_holding (wpAny_truthy_bool ⟨rfl,_,_,rfl,fun _ _ e=>e⟩)
   ·exact ld c' i v s₃ m₃ p1 _ _ hn hm ⟨rfl,s₃.heap,s₃.toks,rfl,fun _ _ e=>e⟩
  ·intro D h₃ tk ys ws hD hl hpl hlen hP hF hk
   obtain ⟨nn,hpl⟩:=hpl
   have hS:StrsAre ws (es.map (·.1)):=by
    refine strsAre_items _ (by rw [hlen,List.length_map,z2.length]) fun j v e=>?_
    obtain ⟨k,x,q1,q2⟩:=hP j v e
    obtain ⟨t,rfl⟩:=Value.isStrOf_shape q2
    exact ⟨k,t,by rw [← k1,List.getElem?_map,q1];rfl,rfl⟩
   have hS2:=strs_filter (c:=c) hS
   rw [← paired_eq hF] at hS2
   have hk1:∀ b o,σ₁.h.get? b=some o→h₃.get? b=some o:=fun b o e=>hk b o (fun z=>by
    rw [List.mem_singleton.mp z] at e
    exact nomatch e.symm.trans (none_of_size σ₁.h)) (Heap.get?_push_of_some _ e)
   have hD1:σ₁.h.get? D=Option.none:=by
    refine Option.eq_none_iff_forall_ne_some.mpr fun o q=>?_
    exact nomatch hD.symm.trans (Heap.get?_push_of_some oI q)
   obtain ⟨C₂,O₂,x₂,r₂⟩:=O₁.new1 (ao:=.txs ((es.map (·.1)).filter fun k=>!strB k c)) hD1 ⟨_,hpl⟩ hk1 rfl (fun p po' e=>(itemsO_view rfl).2 p po' e)
    (fun C' M e'=>⟨ys.toList,nn,by rw [e',hpl],vreps_strs hS2 (fun x hx=>k2 x (List.mem_filter.mp hx).1),by rw [strsAV,List.length_map];exact Nat.le_trans (List.length_filter_le _ _) (by rw [List.length_map];exact hz)⟩)
   exact h _ (σ₁.at C₂ h₃ tk) (x₁.trans (Nx.at x₂)) O₂ r₂
theorem not_interactive (hE:EnvOk env sc):interactive env=false:=by
 unfold interactive
 rw [hE.kind];rfl
theorem SR.expr (hc:noComp e=true) (H:EvR g n sc vs e a v a'):SR g n D sc vs (.Expr e pos) a .next vs a':=fun A env σ hR hE O V Q E h=>
 wpAny_Expr_any (H A env σ hR hE O V _ E fun u σ₁ x₁ O₁ r₁=>h .next σ₁ .next x₁.wD O₁ (V.ext x₁)) (not_interactive hE) (noComp_of hc)
theorem SR.ret (H:EvR g n sc vs e a v a'):SR g n D sc vs (.Return (some e) pos) a (.ret v) vs a':=fun A env σ hR hE O V Q E h=>by
 rw [exec_Return_some]
 exact wpAny_bind (wpAny_standAt (wpAny_bind (H A env σ hR hE O V _ E fun u σ₁ x₁ O₁ r₁=>wpAny_pure (h _ σ₁ (.ret r₁) x₁.wD O₁ (V.ext x₁)))))
theorem SR.ret0:SR g n D sc vs (.Return Option.none pos) a (.ret AV.none) vs a:=fun A env σ hR hE O V Q E h=>
 wpAny_Return_none (h _ σ (.ret (.val _)) .refl O V)
theorem SR.if (H:TvR g n sc vs t a b a₁) (K:SsR g n D sc vs (bif b then body else els) a₁ fl vs' a'):SR g n D sc vs (.If t body els pos) a fl vs' a':=fun A env σ hR hE O V Q E h=>
 wpAny_If (H A env σ hR hE O V _ E fun w σ₁ x₁ O₁ r₁=>by
  subst r₁
  have z:=K A env σ₁ hR hE O₁ (V.ext x₁) Q E fun f' σ₂ F x₂=>h f' σ₂ F (x₁.wD.trans x₂)
  cases w
  ·rw [if_neg Bool.false_ne_true];exact z
  ·rw [if_pos rfl];exact z)
inductive WhR (g:Cx) (n:Nat) (D:Nat→Prop) (sc:Scope) (t:Expr) (body:List Stmt) (vs':Vars) (a':Hp):Nat→Vars→Hp→Prop
|done {vs:Vars} {a:Hp}:TvR g n sc vs' t a false a'→vs=vs'→WhR g n D sc t body vs' a' 0 vs a
|turn {k:Nat} {vs vs₁:Vars} {a a₁ a₂:Hp}:TvR g n sc vs t a true a₁→SsR g n D sc vs body a₁ .next vs₁ a₂→WhR g n D sc t body vs' a' k vs₁ a₂→WhR g n D sc t body vs' a' (k+1) vs a
theorem WhR.split {k:Nat} (L:WhR g n D sc t body vs' a' k vs a):∃ b a₁,TvR g n sc vs t a b a₁∧(bif b then ∃ j vs₁ a₂,j<k∧SsR g n D sc vs body a₁ .next vs₁ a₂∧WhR g n D sc t body vs' a' j vs₁ a₂ else vs=vs'∧a₁=a'):=by
 cases L with
|done h1 h2=>exact ⟨false,_,h2▸h1,h2,rfl⟩
|turn h1 h2 h3=>exact ⟨true,_,h1,_,_,_,Nat.lt_succ_self _,h2,h3⟩
theorem SR.while {k:Nat} (L:WhR g n D sc t body vs' a' k vs a):SR g n D sc vs (.While t body [] pos) a .next vs' a':=fun A env σ hR hE O V Q E h=>by
 rw [exec_While]
 refine wpAny_bind (wpAny_standAt (wpAny_runOwn ?_))
 refine codeAny_whileLoop (fun k s=>∃ vs a σ',s=σ'.s∧Ok g σ'.C σ'.h a∧Nx D false σ σ'∧VR g σ' env vs∧WhR g n D sc t body vs' a' k vs a) ?_ k ⟨vs,a,σ,rfl,O,.refl,V,L⟩
 rintro k _ ⟨vs₂,a₂,σ₂,rfl,O₂,x₂,V₂,L₂⟩
 obtain ⟨b,a₃,e1,fin⟩:=L₂.split
 refine e1 _ env σ₂ hR hE O₂ V₂ _ _ fun w σ₃ x₃ O₃ r₃=>?_
 subst r₃
 have V₃:=V₂.ext x₃
 have X₃:=x₂.trans x₃.wD
 cases w with
|false=>
  obtain ⟨rfl,rfl⟩:=fin
  rw [if_neg Bool.false_ne_true]
  exact wpAny_execs_nil (h .next σ₃ .next X₃ O₃ V₃)
|true=>
  obtain ⟨j,vs₁,a₄,hj,e2,L₄⟩:=fin
  rw [if_pos rfl]
  exact e2 _ env σ₃ hR hE O₃ V₃ _ _ fun f' σ₄ F₄ x₄ O₄ V₄=>by
   cases F₄
   exact ⟨j,hj,_,_,σ₄,rfl,O₄,X₃.trans x₄,V₄,L₄⟩
end
noncomputable def fzV (n:Nat) (l:List Str) (v:AV):AV:=match v with
|.loc m p=>(match p with
 |.root=>bif Nat.beq m n then .lst (strsAV l) else .loc m .root
 |p=>.loc m p)
|v=>v
noncomputable def fzP {α:Type} (n:Nat) (l:List Str) (p:α×AV):α×AV:=(p.1,fzV n l p.2)
noncomputable def fzO (n:Nat) (l:List Str) (o:AObj):AObj:=match o with
|.list xs=>.list (xs.map (fzV n l))
|.dictI es=>.dictI (es.map (fzP n l))
|.inst C fs=>.inst C (fs.map (fzP n l))
|o=>o
noncomputable def fzH (n:Nat) (l:List Str) (a:Hp):Hp:=(a.map (fzO n l)).set n .dead
noncomputable def fzAt (n:Nat) (a:Hp):Option (List Str):=a[n]?.bind fun o=>match o with
|.txs l=>some l
|_=>none
noncomputable def Cfg.frz (C:Cfg) (x:Addr) (o:Obj):Cfg:={ C with own:=fun y=>if y=x then none else C.own y,fz:=fun y=>if y=x then some o else C.fz y }
def Keeps (n:Nat) (l:List Str) (C C':Cfg):Prop:=∀ v u,VRep C v u→VRep C' (fzV n l v) u
section
variable {g:Cx} {C C':Cfg} {h:Heap} {a a':Hp} {n m:Nat} {l:List Str} {p:Part} {D:Nat→Prop} {b:Bool} {vs vs':Vars} {sc:Scope} {ss:List Stmt} {f:Fl}
theorem Keeps.xs (K:Keeps n l C C') {xs:List AV} {us:List Value} (r:VReps C xs us):VReps C' (xs.map (fzV n l)) us:=
 r.ind (P:=fun xs us=>VReps C' (xs.map (fzV n l)) us) .nil fun _ _ _ _ h _ q=>.cons (K _ _ h) q
theorem Keeps.is (K:Keeps n l C C') {es:List (Int×AV)} {us:List (Int×Value)} (r:IPairs C es us):IPairs C' (es.map (fzP n l)) us:=by
 induction r with
|nil=>exact .nil
|cons h _ q=>exact .cons (K _ _ h) q
theorem Keeps.ns (K:Keeps n l C C') {fs:List (Str×AV)} {es:List DictEntry} (r:NPairs C fs es):NPairs C' (fs.map (fzP n l)) es:=by
 induction r with
|nil=>exact .nil
|cons h _ q=>exact .cons (K _ _ h) q
noncomputable def fzQ (n:Nat) (l:List Str) (q:PObj):PObj:=match q with
|.list xs=>.list (xs.map (fzV n l))
|.dictI es=>.dictI (es.map (fzP n l))
|.nsd fs=>.nsd (fs.map (fzP n l))
|q=>q
theorem fz_map {α:Type} (f:α→AV) (hf:∀ x,fzV n l (f x)=f x) (xs:List α):(xs.map f).map (fzV n l)=xs.map f:=by
 rw [List.map_map];exact List.map_congr_left fun x _=>hf x
theorem fz_view {o:AObj} {po:PObj} (e:view m (fzO n l o) p=some po):∃ q,view m o p=some q∧po=fzQ n l q:=by
 have same:∀ {q:PObj},view m o p=some q→fzQ n l q=q→view m (fzO n l o) p=view m o p→∃ q,view m o p=some q∧po=fzQ n l q:=fun {q} e1 e2 e3=>⟨q,e1,by rw [e2];exact Option.some.inj (e.symm.trans (e3.trans e1))⟩
 cases o with
|list xs=>obtain rfl:=view_root rfl e;exact ⟨_,rfl,(Option.some.inj e).symm⟩
|dictI xs=>obtain rfl:=view_root rfl e;exact ⟨_,rfl,(Option.some.inj e).symm⟩
|inst=>cases p<;>first|exact ⟨_,rfl,(Option.some.inj e).symm⟩|cases e
|txs=>obtain rfl:=view_root rfl e;exact same rfl (congrArg PObj.list (fz_map _ (fun _=>rfl) _)) rfl
|ixs=>obtain rfl:=view_root rfl e;exact same rfl (congrArg PObj.list (fz_map _ (fun _=>rfl) _)) rfl
|prs=>obtain rfl:=view_root rfl e;exact same rfl (congrArg PObj.list (fz_map _ (fun _=>rfl) _)) rfl
|dss=>obtain rfl:=view_root rfl e;exact same rfl rfl rfl
|src=>obtain rfl:=view_root rfl e;exact same rfl rfl rfl
|dead=>cases e
|tree t=>cases p with
 |of i k=>
   obtain ⟨r,e1,e2⟩:=Option.map_eq_some_iff.mp e
   refine ⟨_,(view_row e1),?_⟩
   rw [← e2]
   cases k<;>first|rfl|exact (congrArg PObj.list (fz_map _ (fun _=>rfl) _)).symm|skip
   refine congrArg PObj.nsd ?_
   unfold rowFs
   cases r.par<;>rfl
 |rows=>exact same rfl (congrArg PObj.list (fz_map _ (fun _=>rfl) _)) rfl
 |_=>exact same rfl rfl rfl
theorem Ok.frz (O:Ok g C h a) (e:a[n]?=some (.txs l)):∃ C',Ok g C' h (fzH n l a)∧Ext D b C h C' h∧Keeps n l C C'∧∀ y,C.own y=some .lcl→C'.own y=some .lcl:=by
 obtain ⟨d0,d1,us,k,z1,z2,z3⟩:=O.at_ n _ .root _ e rfl
 have ne:∀ {y u},C.own y=u→u≠some (.mu n .root)→y≠C.rho n .root:=fun q hu z=>hu (q.symm.trans (z▸d1))
 have ow:∀ {y},y≠C.rho n .root→(C.frz (C.rho n .root) (lstObj us k)).own y=C.own y:=fun q=>if_neg q
 have ow':∀ {y u},(C.frz (C.rho n .root) (lstObj us k)).own y=some u→C.own y=some u:=fun {y u} q=>by
  by_cases hy:y=C.rho n .root
  ·exact nomatch (if_pos hy).symm.trans q
  ·exact (ow hy).symm.trans q
 have fzm:∀ x o,C.fz x=some o→(C.frz (C.rho n .root) (lstObj us k)).fz x=some o:=fun x o q=>(if_neg (ne (O.fz x o q).2 (fun z=>nomatch z))).trans q
 have M:More C (C.frz (C.rho n .root) (lstObj us k)):=⟨fun _ _ e=>⟨e,rfl⟩,fzm⟩
 have K:Keeps n l C (C.frz (C.rho n .root) (lstObj us k)):=fun v u r=>by
  cases r with
 |loc m p d=>
   have dflt:VRep (C.frz (C.rho n .root) (lstObj us k)) (.loc m p) (.ref (C.rho m p)):=.loc m p d
   cases p with
  |root=>
    show VRep _ (bif Nat.beq m n then _ else _) _
    cases q:Nat.beq m n with
   |true=>
     obtain rfl:=Nat.eq_of_beq_eq_true q
     exact .lst (if_pos rfl) (z2.mono M) (strs_flat l) z3
   |false=>exact dflt
  |_=>exact dflt
 |val=>exact .val _
 |int=>exact .int _ _
 |str s t h=>exact .str _ _ h
 |tup h r l=>exact .tup (fzm _ _ h) (r.mono M) l
 |lst h r z l=>exact .lst (fzm _ _ h) (r.mono M) z l
 have len:(fzH n l a).length=a.length:=by rw [fzH,List.length_set,List.length_map]
 have at':∀ {j o},(fzH n l a)[j]?=some o→o=.dead∨(j≠n∧∃ o₀,a[j]?=some o₀∧o=fzO n l o₀):=fun {j o} q=>by
  rw [fzH,List.getElem?_set] at q
  split at q
  ·split at q
   ·exact .inl (Option.some.inj q).symm
   ·cases q
  ·rename_i hj
   rw [List.getElem?_map] at q
   obtain ⟨o₀,q1,q2⟩:=Option.map_eq_some_iff.mp q
   exact .inr ⟨fun z=>hj z.symm,o₀,q1,q2.symm⟩
 refine ⟨C.frz (C.rho n .root) (lstObj us k),⟨fun x o q=>?_,fun x o q=>fzm x o (O.base x o q),fun x u q=>O.live x u (ow' q),fun j p d=>len▸O.N j p d,fun j o p po q1 q2=>?_,fun j o p q1 q2=>?_⟩,⟨fun _ _ _ d=>⟨d,rfl⟩,fzm,fun _ _ q _ _=>q,fun _ o q=>⟨o,q⟩,fun x _ _ q=>(ow (ne q fun z=>nomatch z)).trans q,fun x q=>(ow (ne q fun z=>nomatch z)).trans q,fun x q=>(ow (ne q fun z=>nomatch z)).trans q,fun x o q=>?_,fun x q=>.inl (ow' q)⟩,K,fun y q=>(ow (ne q fun z=>nomatch z)).trans q⟩
 ·by_cases hx:x=C.rho n .root
  ·subst hx
   obtain rfl:=Option.some.inj ((if_pos rfl).symm.trans q)
   exact ⟨z1,if_pos rfl⟩
  ·have q:=O.fz x o ((if_neg hx).symm.trans q)
   exact ⟨q.1,(ow hx).trans q.2⟩
 ·rcases at' q1 with rfl|⟨hj,o₀,k1,rfl⟩
  ·cases q2
  ·obtain ⟨po₀,k2,rfl⟩:=fz_view q2
   obtain ⟨y0,y1,y2⟩:=O.at_ j o₀ p po₀ k1 k2
   refine ⟨y0,(ow (ne y1 fun z=>hj (by cases z;rfl))).trans y1,?_⟩
   cases po₀ with
  |list xs=>obtain ⟨us,i,x1,x2,x3⟩:=y2;exact ⟨us,i,x1,Keeps.xs K x2,by rw [List.length_map];exact x3⟩
  |dictI es=>obtain ⟨kvs,x1,x2,x3⟩:=y2;exact ⟨kvs,x1,Keeps.is K x2,x3⟩
  |nsd fs=>obtain ⟨es,i,x1,x2⟩:=y2;exact ⟨es,i,x1,Keeps.ns K x2⟩
  |_=>exact y2.mono M y0
 ·rcases at' q1 with rfl|⟨hj,o₀,k1,rfl⟩
  ·exact .inl rfl
  ·rcases O.dv j o₀ p k1 q2 with rfl|⟨po,z⟩
   ·exact .inl rfl
   ·cases o₀ with
   |list xs=>obtain rfl:=view_root rfl z;exact .inr ⟨_,rfl⟩
   |dictI xs=>obtain rfl:=view_root rfl z;exact .inr ⟨_,rfl⟩
   |inst=>cases p<;>first|exact .inr ⟨_,rfl⟩|cases z
   |_=>exact .inr ⟨_,z⟩
 ·by_cases hx:x=C.rho n .root
  ·exact .inr (.inl (by rw [hx,d1];trivial))
  ·exact .inl ((if_neg hx).symm.trans q)
theorem look_fz {x:Str} {v':AV}:look x (vs.map (fzP n l))=some v'→∃ v,look x vs=some v∧v'=fzV n l v:=by
 induction vs with
|nil=>exact fun e=>nomatch e
|cons p r ih=>
  rw [List.map_cons,look,look]
  show (bif strB x p.1 then _ else _)=_→_
  cases strB x p.1 with
 |true=>exact fun e=>⟨_,rfl,(Option.some.inj e).symm⟩
 |false=>exact ih
theorem SsR.fz {k:Nat} (e:a[n]?=some (.txs l)) (H:SsR g k D sc (vs.map (fzP n l)) ss (fzH n l a) f vs' a'):SsR g k D sc vs ss a f vs' a':=fun A env σ hR hE O V Q E q=>by
 obtain ⟨C',O',x,K,ol⟩:=O.frz (D:=D) (b:=false) e
 refine H A env ⟨C',σ.s⟩ hR hE O' (V.map (σ':=⟨C',σ.s⟩) (fun y o e z=>⟨ol y e,z⟩) fun x v' e'=>?_) Q E fun f' σ' F y O₂ V₂=>q f' σ' F (Nx.trans (σ₂:=⟨C',σ.s⟩) ⟨x,rfl⟩ y) O₂ V₂
 obtain ⟨v,e1,rfl⟩:=look_fz e'
 exact ⟨v,e1,K v⟩
end
inductive Hint
|c
|s
|o
|b (b:Bool)
|v (v:AV)
|k (k:Nat)
|row (r:Row)
|call (κ:List Nat) (v:AV) (a:Hp)
|exp (v:AV) (a:Hp)
|stm (f:Fl) (vs:Vars) (a:Hp)
|gc (κ:List Nat) (xs:List Str)
|fz (n:Nat)
|loop (f:Fl) (vs:Vars) (a:Hp)
|comp (k:Nat) (zs:List AV) (o:AObj) (a:Hp)
noncomputable abbrev Hs:=List Hint
section
def optK {α:Type} (o:Option α) (K:α→Prop):Prop:=match o with
|some x=>K x
|none=>False
def ifK (b:Bool) (K:Prop):Prop:=match b with
|true=>K
|false=>False
def orK (b:Bool) (K L:Prop):Prop:=match b with
|true=>K
|false=>L
def dec (b:Bool) (hs:Hs) (K:Bool→Hs→Prop):Prop:=match hs with
|.c::r=>(match b with
 |true=>K true r
 |false=>K false r)
|.b c::r=>b=c∧K c r
|_=>False
def need (b:Bool) (hs:Hs) (K:Hs→Prop):Prop:=match hs with
|.c::r=>ifK b (K r)
|.o::r=>b=true∧K r
|_=>False
def kind (hs:Hs) (K:Nat→Hs→Prop):Prop:=match hs with
|.k n::r=>K n r
|_=>False
def valH (o:Option AV) (hs:Hs) (K:AV→Hs→Prop):Prop:=match hs with
|.c::r=>optK o fun v=>K v r
|.v v::r=>o=some v∧K v r
|_=>False
def strH (o:Option Str) (hs:Hs) (K:Str→Hs→Prop):Prop:=match hs with
|.c::r=>optK o fun v=>K v r
|.v (.str s)::r=>o=some s∧K s r
|_=>False
def rowH (o:Option Row) (hs:Hs) (K:Row→Hs→Prop):Prop:=match hs with
|.row x::r=>o=some x∧K x r
|_=>False
def orV (hs:Hs) (R:AV→Hp→Prop) (K:AV→Hp→Hs→Prop):Prop:=match hs with
|.exp v a::r=>R v a∧K v a r
|_=>False
def orC (hs:Hs) (R:Bool→Prop) (K:Bool→Hs→Prop):Prop:=match hs with
|.b c::r=>R c∧K c r
|_=>False
def orI (hs:Hs) (R:AV→Prop) (K:AV→Hs→Prop):Prop:=match hs with
|.v v::r=>R v∧K v r
|_=>False
noncomputable def toStr:AV→Option Str
|.str s=>some s
|_=>none
noncomputable def toNat:AV→Option Nat
|.int (.ofNat n)=>some n
|_=>none
noncomputable def asPr (v:AV):Option {q:Str×Str // v=.tup [.str q.1,.str q.2]}:=match v with
|.tup [.str x,.str y]=>some ⟨(x,y),rfl⟩
|_=>none
noncomputable def toPair (v:AV):Option (Str×Str):=(asPr v).map (·.1)
noncomputable def mkO (k:Nat) (xs:List AV):Option AObj:=match k with
|0=>some (.list xs)
|1=>(trav toStr xs).map .txs
|2=>(trav toNat xs).map .ixs
|3=>(trav toPair xs).map .prs
|_=>none
noncomputable def isL:AObj→Bool
|.list _=>true
|.txs _=>true
|.ixs _=>true
|.prs _=>true
|_=>false
noncomputable def treeO:AObj→Option (List Row)
|.tree t=>some t
|_=>none
noncomputable def dssO:AObj→Option (SS)
|.dss l=>some l
|_=>none
noncomputable def locOf:AV→Option (Nat×Part)
|.loc n p=>some (n,p)
|_=>none
def lstO (a:Hp) (x:AV) (hs:Hs) (K:AObj→Hs→Prop):Prop:=match x with
|.lst xs=>K (.list xs) hs
|.loc n p=>optK a[n]? fun o=>(match p with
 |.root=>ifK (isL o) (K o hs)
 |.of i k=>optK (treeO o) fun t=>rowH t[i]? hs fun r hs=>optK (rowL k r) fun l=>K (.ixs l) hs
 |_=>False)
|_=>False
noncomputable def appO (o:AObj) (v:AV):Option AObj:=match o with
|.list xs=>some (.list (xs++[v]))
|.txs l=>(toStr v).map fun s=>.txs (l++[s])
|.ixs l=>(toNat v).map fun s=>.ixs (l++[s])
|.prs l=>(toPair v).map fun s=>.prs (l++[s])
|_=>none
noncomputable def lenO:AObj→Nat
|.list xs=>xs.length
|.txs l=>l.length
|.ixs l=>l.length
|.prs l=>l.length
|_=>0
def AddP (o o' p:AObj):Prop:=∀ xs ys,itemsO o=some xs→itemsO o'=some ys→itemsO p=some (xs++ys)
theorem addP_map {α:Type} {f:α→AV} {l l':List α} {xs ys:List AV} (h:some (l.map f)=some xs) (h':some (l'.map f)=some ys):some ((l++l').map f)=some (xs++ys):=by
 obtain rfl:=Option.some.inj h
 obtain rfl:=Option.some.inj h'
 exact congrArg some List.map_append
theorem addP_id {xs ys xs' ys':List AV} (h:some xs=some xs') (h':some ys=some ys'):some (xs++ys)=some (xs'++ys'):=by
 obtain rfl:=Option.some.inj h
 obtain rfl:=Option.some.inj h'
 rfl
noncomputable def addP (o o':AObj):Option {p:AObj // AddP o o' p}:=match o with
|.list xs=>(match o' with|.list ys=>some ⟨.list (xs++ys),fun _ _ h h'=>addP_id h h'⟩|_=>none)
|.txs xs=>(match o' with|.txs ys=>some ⟨.txs (xs++ys),fun _ _ h h'=>addP_map h h'⟩|_=>none)
|.prs xs=>(match o' with|.prs ys=>some ⟨.prs (xs++ys),fun _ _ h h'=>addP_map h h'⟩|_=>none)
|.ixs xs=>(match o' with|.ixs ys=>some ⟨.ixs (xs++ys),fun _ _ h h'=>addP_map h h'⟩|_=>none)
|_=>none
noncomputable def addO (o o':AObj):Option AObj:=(addP o o').map (·.1)
noncomputable def opO (f:{α:Type}→List α→List α):AObj→AObj
|.list xs=>.list (f xs)
|.txs l=>.txs (f l)
|.ixs l=>.ixs (f l)
|.prs l=>.prs (f l)
|o=>o
noncomputable def txsO:AObj→Option (List Str)
|.list xs=>trav toStr xs
|.txs l=>some l
|_=>none
section
variable (g:Cx) (T:Tabs) (m:Nat) (sc:Scope)
noncomputable def nameV (vs:Vars) (x:Str):Option AV:=(look x sc.names).bind fun k=>match k with
|.local=>look x vs
|.cell=>look x vs
|.free=>look x vs
|.globalImplicit=>T.glob x
|_=>none
noncomputable def constAV:Const→Option AV
|.none=>some .none
|.bool b=>some (.bool b)
|.int i=>some (.int i)
|.str s=>bif okS s then some (.str s) else none
|_=>none
noncomputable def asName (e:Expr):Option {q:Str // ∃ p,e=.Name q p}:=match e with
|.Name k p=>some ⟨k,p,rfl⟩
|_=>none
noncomputable def asSt (e:Expr):Option {q:Str // ∃ k p,e=.Constant (.str q) k p}:=match e with
|.Constant (.str s) k p=>some ⟨s,k,p,rfl⟩
|_=>none
noncomputable def simpS (e:Expr):Option Str:=match asSt e with
|some s=>bif okS s.1 then some s.1 else none
|none=>(asName e).bind fun x=>bif isKind .globalImplicit (look x.1 sc.names) then (T.glob x.1).bind toStr else none
noncomputable def natOf:AV→Option Nat:=toNat
noncomputable def tru (v:AV):Option Bool:=match v with
|.val .none=>some false
|.val (.bool b)=>some b
|.int i=>some (i != 0)
|.str s=>some (strT s)
|_=>none
def listEq (n:Bool) (a:Hp) (x y:AV) (hs:Hs) (K:Bool→Hs→Prop):Prop:=match hs with
|.b c::r=>optK (listOf a x) fun xs=>optK (listOf a y) fun ys=>EqL xs ys c∧K (bif n then !c else c) r
|_=>False
def cmpEq (n:Bool) (x y:AV) (a:Hp) (hs:Hs) (K:Bool→Hs→Prop):Prop:=match x with
|.str s=>(match y with
 |.str q=>K (bif n then !strB s q else strB s q) hs
 |.val .none=>ifK n (K true hs)
 |_=>False)
|.int i=>(match y with
 |.int j=>K (bif n then i != j else i==j) hs
 |_=>False)
|.loc _ _=>listEq n a x y hs K
|_=>False
noncomputable def isNo (x:AV):Option Bool:=match x with
|.val .none=>some true
|v=>bif someV v then some false else none
def cmpIn (x y:AV) (a:Hp) (hs:Hs) (K:Bool→Hs→Prop):Prop:=match y with
|.str q=>optK (toStr x) fun s=>K (subB s q) hs
|.tup xs=>optK (toStr x) fun s=>optK (trav toStr xs) fun l=>K (inB s l) hs
|.loc n .root=>optK a[n]? fun o=>(match o with
 |.dss es=>optK (toStr x) fun s=>K (look s es).isSome hs
 |.dictI es=>(match x with
  |.int i=>K (lookI i es).isSome hs
  |_=>False)
 |o=>optK (toStr x) fun s=>optK (txsO o) fun l=>K (inB s l) hs)
|_=>False
noncomputable def isNone:AV→Bool
|.val .none=>true
|_=>false
def goCmp (op:CmpOp) (x y:AV) (a:Hp) (hs:Hs) (K:Bool→Hs→Prop):Prop:=match op with
|.Eq=>cmpEq false x y a hs K
|.NotEq=>cmpEq true x y a hs K
|.Is=>ifK (isNone y) (optK (isNo x) fun b=>K b hs)
|.IsNot=>ifK (isNone y) (optK (isNo x) fun b=>K (!b) hs)
|.In=>cmpIn x y a hs K
|.NotIn=>cmpIn x y a hs fun b=>K (!b)
|.Lt=>(match x with|.int i=>(match y with|.int j=>K (decide (i<j)) hs|_=>False)|_=>False)
|.LtE=>(match x with|.int i=>(match y with|.int j=>K (decide (i≤j)) hs|_=>False)|_=>orC hs (CmpR g .LtE x y a) K)
|.Gt=>(match x with|.int i=>(match y with|.int j=>K (decide (j<i)) hs|_=>False)|_=>False)
|.GtE=>orC hs (CmpR g .GtE x y a) K
def mulK (k:Nat) (o:AObj) (a:Hp) (hs:Hs) (K:AV→Hp→Hs→Prop):Prop:=match k with
|0=>K (.loc a.length .root) (a++[.list []]) hs
|1=>K (.loc a.length .root) (a++[o]) hs
|_=>False
def goBin (op:Operator) (x y:AV) (a:Hp) (hs:Hs) (K:AV→Hp→Hs→Prop):Prop:=match op with
|.Add=>(match x with
 |.int i=>(match y with|.int j=>K (.int (i+j)) a hs|_=>False)
 |.str s=>(match y with|.str q=>need (Nat.ble (s.length+q.length) cap) hs fun hs=>K (.str (s++q)) a hs|_=>False)
 |x=>lstO a x hs fun o hs=>lstO a y hs fun o' hs=>need (Nat.ble (lenO o+lenO o') cap) hs fun hs=>optK (addO o o') fun o₂=>K (.loc a.length .root) (a++[o₂]) hs)
|.Sub=>(match x with|.int i=>(match y with|.int j=>K (.int (i - j)) a hs|_=>False)|_=>False)
|.Mult=>(match x with|.int _=>orV hs (BinR g .Mult x y a) K|x=>lstO a x hs fun o hs=>optK (toNat y) fun k=>mulK k o a hs K)
|op=>orV hs (BinR g op x y a) K
def goItem (a:Hp) (x i:AV) (hs:Hs) (K:AV→Hs→Prop):Prop:=match x with
|.str s=>optK (toNat i) fun j=>kind hs fun d hs=>s.cps.toList[j]?=some d∧K (.str ⟨#[d]⟩) hs
|.tup xs=>optK (toNat i) fun j=>valH xs[j]? hs K
|.lst xs=>optK (toNat i) fun j=>valH xs[j]? hs K
|.val v=>orI hs (ItemR g a (.val v) i) K
|.loc n .root=>optK a[n]? fun o=>(match o with
 |.dss es=>optK (toStr i) fun s=>strH (look s es) hs fun q hs=>K (.str q) hs
 |.dictI es=>(match i with
  |.int i=>valH (lookI i es) hs K
  |_=>False)
 |.txs l=>optK (toNat i) fun j=>strH l[j]? hs fun q hs=>K (.str q) hs
 |.list xs=>(match i with
  |.int (.ofNat j)=>valH xs[j]? hs K
  |.int j=>optK (idx j xs.length) fun j=>optK xs[j]? fun v=>K v hs
  |_=>False)
 |_=>False)
|.loc n .rows=>optK a[n]? fun o=>optK (treeO o) fun t=>optK (toNat i) fun j=>need (Nat.blt j t.length) hs fun hs=>K (.loc n (.row j)) hs
|_=>False
def goGet (a:Hp) (x:AV) (name:Str) (hs:Hs) (K:AV→Hs→Prop):Prop:=optK (locOf x) fun x=>optK a[x.1]? fun o=>(match o with
|.inst C fs=>(match x.2 with
 |.root=>ifK (T.field C name) (optK (look name fs) fun v=>ifK (handB v) (K v hs))
 |_=>False)
|.tree t=>(match x.2 with
 |.root=>ifK (T.field C_Tree name&&strB name (Str.ofString "rows")) (K (.loc x.1 .rows) hs)
 |.of i .row=>ifK (T.field C_Row name) (rowH t[i]? hs fun r hs=>optK (look name (rowFs x.1 i r)) fun v=>ifK (handB v) (K v hs))
 |_=>False)
|_=>False)
def goPut (a:Hp) (x:AV) (name:Str) (v:AV) (hs:Hs) (K:Hp→Hs→Prop):Prop:=optK (locOf x) fun x=>optK a[x.1]? fun o=>(match o with
|.inst C fs=>(match x.2 with
 |.root=>ifK (T.field C name&&Nat.ble fs.length 500) (K (a.set x.1 (.inst C (setL name v fs))) hs)
 |_=>False)
|.tree t=>(match x.2 with
 |.of i .row=>ifK (T.field C_Row name&&(strB name (Str.ofString "name")||strB name (Str.ofString "value"))) (optK (toStr v) fun s=>rowH t[i]? hs fun r hs=>K (a.set x.1 (.tree (t.set i (setRow name s r)))) hs)
 |_=>False)
|_=>False)
def goSet (a:Hp) (x i v:AV) (hs:Hs) (K:Hp→Hs→Prop):Prop:=match x with
|.loc n .root=>optK a[n]? fun o=>(match o with
 |.dss es=>optK (toStr i) fun s=>optK (toStr v) fun q=>need (Nat.ble es.length 500) hs fun hs=>K (a.set n (.dss (setL s q es))) hs
 |.dictI es=>(match i with
  |.int i=>need (Nat.ble es.length 500) hs fun hs=>K (a.set n (.dictI (setI i v es))) hs
  |_=>False)
 |.list xs=>(match i with
  |.int (.ofNat j)=>need (Nat.blt j xs.length) hs fun hs=>K (a.set n (.list (xs.set j v))) hs
  |.int (.negSucc 0)=>ifK (Nat.blt 0 xs.length) (K (a.set n (.list (xs.set (xs.length - 1) v))) hs)
  |_=>False)
 |_=>False)
|_=>False
def goMeth (a:Hp) (x:AV) (name:Str) (hs:Hs) (K:Value→Hs→Prop):Prop:=match x with
|.str _=>orK (strB name (Str.ofString "join")) (K (.builtin "str.join") hs) (ifK (strB name (Str.ofString "split")) (K (.builtin "str.split") hs))
|.loc n p=>optK a[n]? fun o=>(match o with
 |.inst C fs=>(match p with
  |.root=>optK (T.meth C name) fun f=>(match look name fs with
   |none=>K (.ref f) hs
   |some _=>False)
  |_=>False)
 |.tree t=>(match p with
  |.root=>ifK (!strB name (Str.ofString "rows")) (optK (T.meth C_Tree name) fun f=>K (.ref f) hs)
  |.of i k=>ifK (strB name (Str.ofString "append")) (rowH t[i]? hs fun r hs=>optK (rowL k r) fun _=>K (.builtin "list.append") hs)
  |.rows=>ifK (strB name (Str.ofString "append")) (K (.builtin "list.append") hs)
  |_=>False)
 |.dss _=>(match p with
  |.root=>orK (strB name (Str.ofString "get")) (K (.builtin "dict.get") hs) (ifK (strB name (Str.ofString "pop")) (K (.builtin "dict.pop") hs))
  |_=>False)
 |o=>(match p with
  |.root=>ifK (strB name (Str.ofString "append")&&isL o) (K (.builtin "list.append") hs)
  |_=>False))
|_=>False
def goCall (lvl:Nat) (f:Addr) (args:List AV) (a:Hp) (hs:Hs) (K:AV→Hp→Hs→Prop):Prop:=match hs with
|.call κ v₀ a₁::r=>ifK (nodupB κ) (optK (gcH κ a) fun a₀=>optK (trav (mapV fun n=>pos n κ) args) fun args₀=>optK (outH κ a a₁) fun a₂=>optK (mapV (outF κ a.length) v₀) fun v=>CR g lvl f args₀ a₀ v₀ a₁∧K v a₂ r)
|_=>False
def goLen (x:AV) (a:Hp) (hs:Hs) (K:AV→Hp→Hs→Prop):Prop:=match x with
|.str s=>K (.nat s.cps.toList.length) a hs
|.loc n .rows=>optK a[n]? fun o=>optK (treeO o) fun t=>K (.nat t.length) a hs
|.val v=>orV hs (CallR g (.builtin "len") [.val v] a) K
|x=>lstO a x hs fun o hs=>K (.nat (lenO o)) a hs
def joinK (n:Nat) (q:Nat×Part) (t:List Row) (a:Hp) (hs:Hs) (K:AV→Hp→Hs→Prop):Prop:=match hs with
|.row r::hs=>(match q.2 with
 |.root=>Fresh4 a q.1 r∧ifK (Nat.blt n q.1) (need (Nat.blt t.length cap) hs fun hs=>K .none (join4 a n q.1 t r) hs)
 |_=>False)
|_=>False
def goApp (x v:AV) (a:Hp) (hs:Hs) (K:AV→Hp→Hs→Prop):Prop:=optK (locOf x) fun x=>optK a[x.1]? fun o=>(match x.2 with
|.root=>optK (appO o v) fun o'=>need (Nat.blt (lenO o) cap) hs fun hs=>K .none (a.set x.1 o') hs
|.rows=>optK (treeO o) fun t=>optK (locOf v) fun q=>joinK x.1 q t a hs K
|.of i k=>optK (treeO o) fun t=>optK (toNat v) fun j=>rowH t[i]? hs fun r hs=>optK (rowL k r) fun l=>need (Nat.blt l.length cap) hs fun hs=>K .none (a.set x.1 (.tree (t.set i (rowP j k r)))) hs
|_=>False)
def popK (n:Nat) (s:Str) (d:Bool) (es:SS) (a:Hp) (hs:Hs) (K:AV→Hp→Hs→Prop):Prop:=match hs with
|.b true::hs=>strH (look s es) hs fun q hs=>need (Nat.ble es.length 1000) hs fun hs=>K (.str q) (a.set n (.dss (delL s es))) hs
|.b false::hs=>ifK d (look s es=none∧K .none a hs)
|_=>False
def goPop (n:Nat) (s:Str) (d:Bool) (a:Hp) (hs:Hs) (K:AV→Hp→Hs→Prop):Prop:=optK a[n]? fun o=>optK (dssO o) fun es=>popK n s d es a hs K
noncomputable def isId (id:String) (k:String):Bool:=strB (Str.ofString id) (Str.ofString k)
def sortK (o:AObj) (a:Hp) (hs:Hs) (K:AV→Hp→Hs→Prop):Prop:=match o with
|.dss es=>need (Nat.blt es.length 60) hs fun hs=>K (.loc a.length .root) (a++[.txs (sortS (es.map (·.1)))]) hs
|o=>optK (txsO o) fun l=>need (Nat.blt l.length 60) hs fun hs=>K (.loc a.length .root) (a++[.txs (sortS l)]) hs
def blt1 (id:String) (x:AV) (a:Hp) (hs:Hs) (K:AV→Hp→Hs→Prop):Prop:=orK (isId id "len") (goLen g x a hs K) (orK (isId id "sorted") (match x with
|.loc n .root=>optK a[n]? fun o=>sortK o a hs K
|_=>False) (orV hs (CallR g (.builtin id) [x] a) K))
def blt2 (id:String) (x y:AV) (a:Hp) (hs:Hs) (K:AV→Hp→Hs→Prop):Prop:=orK (isId id "list.append") (goApp x y a hs K) (match x with
|.str s=>orK (isId id "str.join") (lstO a y hs fun o hs=>optK (txsO o) fun l=>need (Nat.ble (l.foldl (fun n p=>n+p.length+s.length) 0) cap) hs fun hs=>need (okS (Str.join s l)) hs fun hs=>K (.str (Str.join s l)) a hs) (orV hs (CallR g (.builtin id) [.str s,y] a) K)
|.int i=>orV hs (CallR g (.builtin id) [.int i,y] a) K
|.loc n .root=>ifK (isId id "dict.pop") (optK (toStr y) fun s=>goPop n s false a hs K)
|_=>False)
def blt3 (id:String) (x y z:AV) (a:Hp) (hs:Hs) (K:AV→Hp→Hs→Prop):Prop:=match x with
|.loc n .root=>optK (toStr y) fun s=>orK (isId id "dict.get") (optK a[n]? fun o=>optK (dssO o) fun es=>optK (toStr z) fun q=>K (.str ((look s es).getD q)) a hs) (ifK (isId id "dict.pop"&&isNone z) (goPop n s true a hs K))
|_=>False
def goBlt (id:String) (args:List AV) (a:Hp) (hs:Hs) (K:AV→Hp→Hs→Prop):Prop:=match args with
|[]=>False
|x::r=>(match r with
 |[]=>blt1 g id x a hs K
 |y::r=>(match r with
  |[]=>blt2 g id x y a hs K
  |z::r=>(match r with
   |[]=>blt3 id x y z a hs K
   |_::_=>False)))
def intK (x:AV) (a:Hp) (hs:Hs) (K:AV→Hp→Hs→Prop):Prop:=match x with
|.val (.bool b)=>K (.nat b.toNat) a hs
|.int i=>K (.int i) a hs
|_=>False
def digK (k:Nat) (a:Hp) (hs:Hs) (K:AV→Hp→Hs→Prop):Prop:=match k with
|0=>K (.str (Str.ofString "0")) a hs
|1=>K (.str (Str.ofString "1")) a hs
|_=>False
def goTyp (id:String) (args:List AV) (a:Hp) (hs:Hs) (K:AV→Hp→Hs→Prop):Prop:=match args with
|[]=>False
|x::r=>(match r with
 |[]=>orK (isId id "int") (intK x a hs K) (orK (isId id "list") (lstO a x hs fun o hs=>K (.loc a.length .root) (a++[o]) hs) (ifK (isId id "str") (optK (toNat x) fun k=>digK k a hs K)))
 |_::_=>False)
def clsK (k:Nat) (n:Nat) (a:Hp) (hs:Hs) (K:AV→Hp→Hs→Prop):Prop:=match k with
|0=>K (.loc n .root) a hs
|1=>(a[n]?=some (.inst C_Tree [(Str.ofString "rows",.loc (n+1) .root)])∧a[n+1]?=some (.list []))∧K (.loc n .root) ((a.set (n+1) .dead).set n (.tree [])) hs
|_=>False
def goCls (k:Addr) (args:List AV) (a:Hp) (hs:Hs) (K:AV→Hp→Hs→Prop):Prop:=optK (T.init k) fun i=>goCall g m i (.loc a.length .root::args) (a++[.inst k []]) hs fun v a₂ hs=>ifK (isNone v) (kind hs fun j hs=>clsK j a.length a₂ hs K)
def goFv (fv:Value) (pre args:List AV) (a:Hp) (hs:Hs) (K:AV→Hp→Hs→Prop):Prop:=match fv with
|.ref f=>(match T.fn f with
 |some _=>goCall g (m+1) f (pre++args) a hs K
 |none=>(match pre with
  |[]=>goCls g T m f args a hs K
  |_=>False))
|.builtin id=>goBlt g id (pre++args) a hs K
|.type id=>goTyp id (pre++args) a hs K
|_=>False
end
end
section
noncomputable abbrev KE:=AV→Hp→Hs→Prop
noncomputable abbrev KT:=Bool→Hp→Hs→Prop
noncomputable abbrev KS:=Fl→Vars→Hp→Hs→Prop
structure Rec where
 e:Vars→Expr→Hp→Hs→KE→Prop
 t:Vars→Expr→Hp→Hs→KT→Prop
 s:Vars→List Stmt→Hp→Hs→KS→Prop
noncomputable def goEs (r:Rec) (vs:Vars):List Expr→Hp→Hs→(List AV→Hp→Hs→Prop)→Prop
|[],a,hs,K=>K [] a hs
|e::es,a,hs,K=>ifK (noStar e) (r.e vs e a hs fun v a hs=>goEs r vs es a hs fun xs a hs=>K (v::xs) a hs)
noncomputable def asComp (e:Expr):Option {q:Expr×List Comprehension×Scope // ∃ p,e=.ListComp q.1 q.2.1 q.2.2 p}:=match e with
|.ListComp x gs sc p=>some ⟨(x,gs,sc),p,rfl⟩
|_=>none
noncomputable def asCall (e:Expr):Option {q:Str×List Expr // ∃ p pos,e=.Call (.Name q.1 p) q.2 [] pos}:=match e with
|.Call (.Name k p) es [] pos=>some ⟨(k,es),p,pos,rfl⟩
|_=>none
noncomputable def asConst (e:Expr):Option {q:Const // ∃ k p,e=.Constant q k p}:=match e with
|.Constant c k p=>some ⟨c,k,p,rfl⟩
|_=>none
noncomputable def asUn (e:Expr):Option {q:UnaryOp×Expr // ∃ p,e=.UnaryOp q.1 q.2 p}:=match e with
|.UnaryOp o x p=>some ⟨(o,x),p,rfl⟩
|_=>none
noncomputable def asAttr (e:Expr):Option {q:Expr×Str×Pos // e=.Attribute q.1 q.2.1 q.2.2}:=match e with
|.Attribute l k p=>some ⟨(l,k,p),rfl⟩
|_=>none
noncomputable def baseOk:Expr→Bool
|.Call (.Name _ _) _ _ _=>false
|_=>true
inductive Sl
|rev
|revFrom
|upTo (e:Expr)
|part (e f:Expr)
|item
|other
noncomputable def isC (i:Int) (e:Expr):Bool:=match asConst e with
|some q=>decide (q.1=.int i)
|none=>false
noncomputable def isM1 (e:Expr):Bool:=match asUn e with
|some q=>decide (q.1.1=.USub)&&isC 1 q.1.2
|none=>false
noncomputable def slice:Expr→Sl
|.Slice none none (some e) _=>bif isM1 e then .rev else .other
|.Slice none (some e) (some f) _=>bif isC 0 e&&isM1 f then .revFrom else .other
|.Slice none (some e) none _=>.upTo e
|.Slice (some e) (some f) none _=>.part e f
|.Slice _ _ _ _=>.other
|_=>.item
def subObj (f:{α:Type}→List α→List α) (x:AV) (a:Hp) (hs:Hs) (K:KE):Prop:=lstO a x hs fun o hs=>K (.loc a.length .root) (a++[opO f o]) hs
section
variable (g:Cx) (T:Tabs) (m:Nat) (sc:Scope)
def goCallE (r:Rec) (vs:Vars) (f:Expr) (es:List Expr) (pos:Pos) (a:Hp) (hs:Hs) (K:KE):Prop:=match asName f with
|some k=>optK (nameV T sc vs k.1) fun fv=>(match fv with
 |.val fv=>ifK (es.all noStar) (goEs r vs es a hs fun xs a hs=>goFv g T m fv [] xs a hs K)
 |_=>False)
|none=>optK (asAttr f) fun q=>ifK (Nat.beq q.1.2.2.endLine pos.line&&Nat.blt es.length 20&&es.all noStar&&baseOk q.1.1) (r.e vs q.1.1 a hs fun x a hs=>goMeth T a x q.1.2.1 hs fun fv hs=>goEs r vs es a hs fun xs a hs=>goFv g T m fv [x] xs a hs K)
def goSub (r:Rec) (vs:Vars) (l s:Expr) (a:Hp) (hs:Hs) (K:KE):Prop:=r.e vs l a hs fun x a hs=>(match slice s with
|.rev=>subObj List.reverse x a hs K
|.revFrom=>subObj (fun l=>(l.drop 1).reverse) x a hs K
|.upTo e=>r.e vs e a hs fun k a hs=>optK (toNat k) fun k=>subObj (List.take k) x a hs K
|.part e f=>optK (toStr x) fun s=>r.e vs e a hs fun i a hs=>r.e vs f a hs fun j a hs=>optK (toNat i) fun i=>optK (toNat j) fun j=>need (Nat.ble i j) hs fun hs=>need (Nat.ble j s.cps.toList.length) hs fun hs=>K (.str (subst s i j)) a hs
|.item=>r.e vs s a hs fun i a hs=>goItem g a x i hs fun v hs=>K v a hs
|.other=>False)
def itPlain (v:AV) (a:Hp) (hs:Hs) (K:Src→Hp→Hs→Prop):Prop:=lstO a v hs fun _ hs=>K (.lst v) a hs
def itTyp (id:String) (r:Rec) (vs:Vars) (es:List Expr) (a:Hp) (hs:Hs) (K:Src→Hp→Hs→Prop):Prop:=match es with
|[]=>False
|e::es=>(match es with
 |[]=>ifK (noStar e) (r.e vs e a hs fun v a hs=>orK (isId id "range") (optK (toNat v) fun j=>need (Nat.ble j cap) hs fun hs=>K (.rng 0 j) a hs) (ifK (isId id "enumerate") (lstO a v hs fun _ hs=>K (.enum v) a hs)))
 |f::es=>(match es with
  |[]=>ifK (noStar e&&noStar f) (r.e vs e a hs fun v a hs=>r.e vs f a hs fun w a hs=>orK (isId id "range") (optK (toNat v) fun i=>optK (toNat w) fun j=>need (Nat.ble i j) hs fun hs=>need (Nat.ble j cap) hs fun hs=>K (.rng i (j - i)) a hs) (ifK (isId id "zip") (lstO a v hs fun _ hs=>lstO a w hs fun _ hs=>K (.zip v w) a hs)))
  |_::_=>False))
noncomputable def typId (v:AV):Option {id:String // v=.val (.type id)}:=match v with
|.val (.type id)=>some ⟨id,rfl⟩
|_=>none
def goIt (r:Rec) (vs:Vars) (e:Expr) (a:Hp) (hs:Hs) (K:Src→Hp→Hs→Prop):Prop:=match asCall e with
|some c=>(match nameV T sc vs c.1.1 with
 |some v=>(match typId v with
  |some i=>orK (!isId i.1 "list") (itTyp i.1 r vs c.1.2 a hs K) (ifK (noSet e) (r.e vs e a hs fun v a hs=>itPlain v a hs K))
  |none=>ifK (noSet e) (r.e vs e a hs fun v a hs=>itPlain v a hs K))
 |none=>ifK (noSet e) (r.e vs e a hs fun v a hs=>itPlain v a hs K))
|none=>ifK (noSet e) (r.e vs e a hs fun v a hs=>itPlain v a hs K)
def KeyP (elt tgt:Expr) (ifs:List Expr) (q:Str×Str):Prop:=∃ p1 p2 p3 k p4 p5,elt=.Name q.1 p1∧tgt=.Name q.1 p2∧ifs=[.Compare (.Name q.1 p3) [.NotEq] [.Constant (.str q.2) k p4] p5]
theorem keyP_of {x y z c:Str} {p1 p2 p3 p4 p5:Pos} {k:Nat} (h:(strB x y&&strB x z)=true):KeyP (.Name x p1) (.Name y p2) [.Compare (.Name z p3) [.NotEq] [.Constant (.str c) k p4] p5] (y,c):=by
 have h:=(Bool.and_eq_true _ _).mp h
 obtain rfl:=strB_iff.mp h.1
 obtain rfl:=strB_iff.mp h.2
 exact ⟨_,_,_,_,_,_,rfl,rfl,rfl⟩
noncomputable def keyF (elt tgt:Expr) (ifs:List Expr):Option {q:Str×Str // KeyP elt tgt ifs q}:=match elt,tgt,ifs with
|.Name x _,.Name y _,[.Compare (.Name z _) [.NotEq] [.Constant (.str c) _ _] _]=>dite ((strB x y&&strB x z)=true) (fun h=>some ⟨(y,c),keyP_of h⟩) fun _=>none
|_,_,_=>none
def keysK (csc:Scope) (c:Str) (v:AV) (a:Hp) (hs:Hs) (K:KE):Prop:=optK (locOf v) fun q=>optK a[q.1]? fun o=>(match q.2 with
|.root=>optK (dssO o) fun es=>need (Nat.ble es.length cap) hs fun hs=>K (.loc a.length .root) (a++[.txs ((es.map (·.1)).filter fun k=>!strB k c)]) hs
|_=>False)
def compK (csc:Scope) (tgt elt:Expr) (ifs:List Expr) (vs:Vars) (src:Src) (a₁:Hp) (hs:Hs) (K:KE):Prop:=match hs with
|.comp k zs o a'::hs=>ifK (!needsTup src) (CoL g (m+1) csc tgt elt ifs src a' k 0 (freeVars csc vs) a₁ zs∧k≤cap∧itemsO o=some zs∧K (.loc a'.length .root) (a'++[o]) hs)
|_=>False
def goComp (b:Bool) (r:Rec) (vs:Vars) (elt:Expr) (gens:List Comprehension) (csc:Scope) (a:Hp) (hs:Hs) (K:KE):Prop:=match gens with
|[c]=>ifK (compOk sc csc&&decide (c.is_async=0)) (match keyF elt c.target c.ifs with
 |some q=>ifK (!b&&(isKind .local (look q.1.1 csc.names)&&noSet c.iter)) (r.e vs c.iter a hs fun v a hs=>keysK csc q.1.2 v a hs K)
 |none=>goIt T sc r vs c.iter a hs fun src a₁ hs=>compK g m csc c.target elt c.ifs vs src a₁ hs K)
|_=>False
noncomputable def asOne (es:List Expr):Option {q:Expr // es=[q]}:=match es with
|[e]=>some ⟨e,rfl⟩
|_=>none
noncomputable def asKey (ks:List (Option Expr)):Option {q:Str // ∃ k p,ks=[some (.Constant (.str q) k p)]}:=match ks with
|[some (.Constant (.str q) k p)]=>some ⟨q,k,p,rfl⟩
|_=>none
def goDict (ks:List (Option Expr)) (es:List Expr) (a:Hp) (hs:Hs) (K:KE):Prop:=match asKey ks with
|some k=>optK (asOne es) fun e=>ifK (okS k.1) (optK (simpS T sc e.1) fun s=>K (.loc a.length .root) (a++[.dss [(k.1,s)]]) hs)
|none=>ifK (ks.isEmpty&&es.isEmpty) (kind hs fun k hs=>orK (Nat.beq k 4) (K (.loc a.length .root) (a++[.dss []]) hs) (ifK (Nat.beq k 5) (K (.loc a.length .root) (a++[.dictI []]) hs)))
def orExp (vs:Vars) (e:Expr) (a:Hp) (hs:Hs) (K:KE) (L:Prop):Prop:=match hs with
|.exp v a'::hs=>EvR g (m+1) sc vs e a v a'∧K v a' hs
|_=>L
def stepE (r:Rec) (vs:Vars) (e:Expr) (a:Hp) (hs:Hs) (K:KE):Prop:=match e with
|.Name x _=>optK (nameV T sc vs x) fun v=>K v a hs
|.Constant c _ _=>optK (constAV c) fun v=>K v a hs
|.List es _=>goEs r vs es a hs fun xs a hs=>kind hs fun k hs=>optK (mkO k xs) fun o=>ifK (Nat.ble xs.length cap) (K (.loc a.length .root) (a++[o]) hs)
|.Tuple es _ _=>goEs r vs es a hs fun xs a hs=>ifK (Nat.ble xs.length cap) (K (.tup xs) a hs)
|.Dict ks es _=>goDict T sc ks es a hs K
|.BinOp l op e _=>r.e vs l a hs fun x a hs=>r.e vs e a hs fun y a hs=>goBin g op x y a hs K
|.UnaryOp op e _=>(match op with
 |.Not=>r.e vs e a hs fun x a hs=>optK (tru x) fun b=>K (.bool (!b)) a hs
 |.USub=>r.e vs e a hs fun x a hs=>(match x with
  |.int i=>K (.int (-i)) a hs
  |_=>False)
 |_=>False)
|.BoolOp op es p=>orExp g m sc vs (.BoolOp op es p) a hs K (match es with
 |[e]=>r.e vs e a hs K
 |e::f::es=>r.e vs e a hs fun x a hs=>optK (tru x) fun b=>dec b hs fun b hs=>(match op with
  |.And=>(match b with
   |true=>r.e vs (.BoolOp op (f::es) p) a hs K
   |false=>K x a hs)
  |.Or=>(match b with
   |true=>K x a hs
   |false=>r.e vs (.BoolOp op (f::es) p) a hs K))
 |_=>False)
|.Compare l ops rs _=>(match ops with
 |[op]=>(match rs with
  |[e]=>ifK (noSet e) (r.e vs l a hs fun x a hs=>r.e vs e a hs fun y a hs=>goCmp g op x y a hs fun b hs=>K (.bool b) a hs)
  |_=>False)
 |[op,op']=>(match rs with
  |[e,f]=>ifK (noSet e&&noSet f) (r.e vs l a hs fun x a hs=>r.e vs e a hs fun y a hs=>goCmp g op x y a hs fun b hs=>dec b hs fun b hs=>ifK b (r.e vs f a hs fun z a hs=>goCmp g op' y z a hs fun b hs=>K (.bool b) a hs))
  |_=>False)
 |_=>False)
|.IfExp t e f _=>r.t vs t a hs fun b a hs=>r.e vs (bif b then e else f) a hs K
|.Call f es kws pos=>(match kws with
 |[]=>goCallE g T m sc r vs f es pos a hs K
 |_=>False)
|.Attribute l name _=>ifK (baseOk l) (r.e vs l a hs fun x a hs=>goGet T a x name hs fun v hs=>K v a hs)
|.Subscript l s _=>goSub g r vs l s a hs K
|.ListComp elt gens csc _=>goComp g T m sc false r vs elt gens csc a hs K
|e=>orExp g m sc vs e a hs K False
noncomputable def goTs (r:Rec) (vs:Vars) (op:BoolOp):List Expr→Hp→Hs→KT→Prop
|[],a,hs,K=>(match op with
 |.And=>K true a hs
 |.Or=>K false a hs)
|e::es,a,hs,K=>r.t vs e a hs fun b a hs=>(match op with
 |.And=>(match b with
  |true=>goTs r vs op es a hs K
  |false=>K false a hs)
 |.Or=>(match b with
  |true=>K true a hs
  |false=>goTs r vs op es a hs K))
def stTst (r:Rec) (vs:Vars) (e:Expr) (a:Hp) (hs:Hs) (K:KT):Prop:=match e with
|.UnaryOp op e _=>(match op with
 |.Not=>r.t vs e a hs fun b a hs=>K (!b) a hs
 |_=>False)
|.BoolOp op es _=>goTs r vs op es a hs K
|.Compare l ops rs _=>(match ops with
 |[op]=>(match rs with
  |[e]=>ifK (noSet e) (r.e vs l a hs fun x a hs=>r.e vs e a hs fun y a hs=>goCmp g op x y a hs fun b hs=>dec b hs fun b hs=>K b a hs)
  |_=>False)
 |[op,op']=>(match rs with
  |[e,f]=>ifK (noSet e&&noSet f) (r.e vs l a hs fun x a hs=>r.e vs e a hs fun y a hs=>goCmp g op x y a hs fun b hs=>dec b hs fun b hs=>ifK b (r.e vs f a hs fun z a hs=>goCmp g op' y z a hs fun b hs=>dec b hs fun b hs=>K b a hs))
  |_=>False)
 |_=>False)
|e=>ifK (valTest e) (r.e vs e a hs fun x a hs=>optK (tru x) fun b=>dec b hs fun b hs=>K b a hs)
noncomputable def stN (x:Str):Bool:=match look x sc.names with
|some .local=>true
|some .cell=>true
|_=>false
def goAs1 (r:Rec) (tgt:Expr) (v:AV) (vs:Vars) (a:Hp) (hs:Hs) (K:Vars→Hp→Hs→Prop):Prop:=match tgt with
|.Name k _=>ifK (stN sc k) (K (setL k v vs) a hs)
|.Attribute l name _=>r.e vs l a hs fun x a hs=>goPut T a x name v hs fun a hs=>K vs a hs
|.Subscript l i _=>r.e vs l a hs fun x a hs=>r.e vs i a hs fun y a hs=>goSet a x y v hs fun a hs=>K vs a hs
|_=>False
noncomputable def goAsL (r:Rec):List Expr→List AV→Vars→Hp→Hs→(Vars→Hp→Hs→Prop)→Prop
|[],xs,vs,a,hs,K=>(match xs with
 |[]=>K vs a hs
 |_=>False)
|t::ts,xs,vs,a,hs,K=>(match xs with
 |x::xs=>ifK (noStar t) (goAs1 T sc r t x vs a hs fun vs a hs=>goAsL r ts xs vs a hs K)
 |[]=>False)
def goAs (r:Rec) (tgt:Expr) (v:AV) (vs:Vars) (a:Hp) (hs:Hs) (K:Vars→Hp→Hs→Prop):Prop:=match asTup tgt with
|some ts=>optK (seqOf a v) fun xs=>goAsL T sc r ts.1 xs vs a hs K
|none=>goAs1 T sc r tgt v vs a hs K
def TwoP (t e:Expr) (q:Str×Str):Prop:=∃ p1 p2 c p es c' p',t=.Tuple [.Name q.1 p1,.Name q.2 p2] c p∧e=.Tuple es c' p'∧strB q.1 q.2=false∧es.all (constantsAlone 8)=false
theorem twoP_of {x y:Str} {p1 p2 p p':Pos} {c c':Nat} {es:List Expr} (h:(!strB x y&&!es.all (constantsAlone 8))=true):TwoP (.Tuple [.Name x p1,.Name y p2] c p) (.Tuple es c' p') (x,y):=by
 have h:=(Bool.and_eq_true _ _).mp h
 exact ⟨p1,p2,c,p,es,c',p',rfl,rfl,(Bool.not_eq_true' _).mp h.1,(Bool.not_eq_true' _).mp h.2⟩
noncomputable def twoNames (t e:Expr):Option {q:Str×Str // TwoP t e q}:=match t,e with
|.Tuple [.Name x _,.Name y _] _ _,.Tuple es _ _=>dite ((!strB x y&&!es.all (constantsAlone 8))=true) (fun h=>some ⟨(x,y),twoP_of h⟩) fun _=>none
|_,_=>none
noncomputable def isTwo (v:AV):Option {q:AV×AV // v=.tup [q.1,q.2]}:=match v with
|.tup [x,y]=>some ⟨(x,y),rfl⟩
|_=>none
noncomputable def asSub (e:Expr):Option {q:Expr×Expr // ∃ p,e=.Subscript q.1 q.2 p}:=match e with
|.Subscript x i p=>some ⟨(x,i),p,rfl⟩
|_=>none
noncomputable def compName (t e:Expr):Option (Str×Expr×List Comprehension×Scope):=(asName t).bind fun k=>(asComp e).map fun q=>(k.1,q.1)
def goAssign (r:Rec) (t e:Expr) (vs:Vars) (a:Hp) (hs:Hs) (K:Vars→Hp→Hs→Prop):Prop:=match twoNames t e with
|some q=>ifK (stN sc q.1.1&&stN sc q.1.2) (r.e vs e a hs fun v a hs=>optK (isTwo v) fun v=>K (setL q.1.2 v.1.2 (setL q.1.1 v.1.1 vs)) a hs)
|none=>(match compName t e with
 |some q=>ifK (stN sc q.1) (goComp g T m sc true r vs q.2.1 q.2.2.1 q.2.2.2 a hs fun v a hs=>K (setL q.1 v vs) a hs)
 |none=>ifK ((noComp e||((asSub t).isSome&&(asComp e).isSome))&&(inOrder t e&&noStar t)) (r.e vs e a hs fun v a hs=>goAs T sc r t v vs a hs K))
variable (d:Nat)
def loopK (t:Expr) (b:List Stmt) (vs:Vars) (src:Src) (a:Hp) (hs:Hs) (K:KS):Prop:=match hs with
|.loop f vs' a'::hs=>ifK ((!needsTup src||isTupT t)&&Nat.ble d a.length) ((∃ k,LoR g (m+1) (fun i=>i<a.length) sc t b src f vs' a' k 0 vs a)∧SrcIn (fun i=>i<a.length) src∧K f vs' a' hs)
|_=>False
def whileK (t:Expr) (b:List Stmt) (vs:Vars) (a:Hp) (hs:Hs) (K:KS):Prop:=match hs with
|.loop _ vs' a'::hs=>ifK (Nat.ble d a.length) ((∃ k,WhR g (m+1) (fun i=>i<a.length) sc t b vs' a' k vs a)∧K .next vs' a' hs)
|_=>False
def stepS1 (r:Rec) (vs:Vars) (st:Stmt) (a:Hp) (hs:Hs) (K:KS):Prop:=match st with
|.Expr e _=>ifK (noComp e) (r.e vs e a hs fun _ a hs=>K .next vs a hs)
|.Return e _=>(match e with
 |some e=>r.e vs e a hs fun v a hs=>K (.ret v) vs a hs
 |none=>K (.ret .none) vs a hs)
|.Assign ts e _=>(match ts with
 |[t]=>goAssign g T m sc r t e vs a hs fun vs a hs=>K .next vs a hs
 |_=>False)
|.If t b o _=>r.t vs t a hs fun c a hs=>r.s vs (bif c then b else o) a hs K
|.For t it b o _=>(match o with
 |[]=>goIt T sc r vs it a hs fun src a hs=>loopK g m sc d t b vs src a hs K
 |_=>False)
|.While t b o _=>(match o with
 |[]=>whileK g m sc d t b vs a hs K
 |_=>False)
|_=>False
noncomputable def stay (d:Nat) (κ:List Nat):Bool:=(List.range d).all fun i=>match κ[i]? with
|some j=>Nat.beq i j
|none=>false
def goGc (κ:List Nat) (xs:List Str) (vs:Vars) (a:Hp) (K:Vars→Hp→Prop):Prop:=ifK (nodupB κ&&stay d κ) (optK (gcH κ a) fun a=>optK (gcV κ xs vs) fun vs=>K vs a)
def goS (r:Rec) (vs:Vars) (st:Stmt) (a:Hp) (hs:Hs) (K:KS):Prop:=match hs with
|.stm f vs' a'::hs=>SR g (m+1) (fun i=>i<d) sc vs st a f vs' a'∧K f vs' a' hs
|hs=>stepS1 g T m sc d r vs st a hs K
def gc1K (vs:Vars) (a:Hp) (hs:Hs) (K:Vars→Hp→Hs→Prop):Prop:=match hs with
|.gc κ xs::hs=>goGc d κ xs vs a fun vs a=>K vs a hs
|.s::hs=>K vs a hs
|hs=>K vs a hs
def gcK (vs:Vars) (a:Hp) (hs:Hs) (K:Vars→Hp→Hs→Prop):Prop:=match hs with
|.fz n::hs=>optK (fzAt n a) fun l=>gc1K d (vs.map (fzP n l)) (fzH n l a) hs K
|hs=>gc1K d vs a hs K
def flK (f:Fl) (L:Prop) (K:AV→Prop):Prop:=match f with
|.next=>L
|.ret v=>K v
noncomputable def goSs (r:Rec):Vars→List Stmt→Hp→Hs→KS→Prop
|vs,[],a,hs,K=>gcK d vs a hs fun vs a hs=>K .next vs a hs
|vs,st::ss,a,hs,K=>gcK d vs a hs fun vs a hs=>goS g T m sc d r vs st a hs fun f vs a hs=>flK f (goSs r vs ss a hs K) fun v=>K (.ret v) vs a hs
noncomputable def go:Nat→Rec
|0=>⟨fun _ _ _ _ _=>False,fun _ _ _ _ _=>False,fun _ _ _ _ _=>False⟩
|k+1=>⟨fun vs e a hs K=>stepE g T m sc (go k) vs e a hs K,fun vs e a hs K=>stTst g (go k) vs e a hs K,fun vs ss a hs K=>goSs g T m sc d (go k) vs ss a hs K⟩
end
end
section
variable {P:Prop}
theorem optK_i {α:Type} {o:Option α} {K:α→Prop} (h:∀ x,o=some x→K x→P):optK o K→P:=by
 cases o with
|none=>exact False.elim
|some x=>exact h x rfl
theorem ifK_i {b:Bool} {K:Prop} (h:b=true→K→P):ifK b K→P:=by
 cases b with
|false=>exact False.elim
|true=>exact h rfl
theorem ifK_s {b:Bool} {K:Prop} (h:ifK b K):b=true∧K:=ifK_i (fun e h=>⟨e,h⟩) h
theorem orK_i {b:Bool} {K L:Prop} (h:b=true→K→P) (h':b=false→L→P):orK b K L→P:=by
 cases b with
|false=>exact h' rfl
|true=>exact h rfl
theorem dec_i {b:Bool} {hs:Hs} {K:Bool→Hs→Prop} (h:∀ hs',K b hs'→P):dec b hs K→P:=by
 cases hs with
|nil=>exact False.elim
|cons x r=>cases x with
 |c=>cases b<;>exact h r
 |b c=>exact fun z=>h r (z.1▸z.2)
 |_=>exact False.elim
theorem need_i {b:Bool} {hs:Hs} {K:Hs→Prop} (h:b=true→∀ hs',K hs'→P):need b hs K→P:=by
 cases hs with
|nil=>exact False.elim
|cons x r=>cases x with
 |c=>exact ifK_i fun e=>h e r
 |o=>exact fun z=>h z.1 r z.2
 |_=>exact False.elim
theorem kind_i {hs:Hs} {K:Nat→Hs→Prop} (h:∀ k hs',K k hs'→P):kind hs K→P:=by
 cases hs with
|nil=>exact False.elim
|cons x r=>cases x with
 |k n=>exact h n r
 |_=>exact False.elim
theorem valH_i {o:Option AV} {hs:Hs} {K:AV→Hs→Prop} (h:∀ v hs',o=some v→K v hs'→P):valH o hs K→P:=by
 cases hs with
|nil=>exact False.elim
|cons x r=>cases x with
 |c=>exact optK_i fun v=>h v r
 |v v=>exact fun z=>h v r z.1 z.2
 |_=>exact False.elim
theorem strH_i {o:Option Str} {hs:Hs} {K:Str→Hs→Prop} (h:∀ v hs',o=some v→K v hs'→P):strH o hs K→P:=by
 cases hs with
|nil=>exact False.elim
|cons x r=>cases x with
 |c=>exact optK_i fun v=>h v r
 |v v=>cases v with
  |str s=>exact fun z=>h s r z.1 z.2
  |_=>exact False.elim
 |_=>exact False.elim
theorem rowH_i {o:Option Row} {hs:Hs} {K:Row→Hs→Prop} (h:∀ v hs',o=some v→K v hs'→P):rowH o hs K→P:=by
 cases hs with
|nil=>exact False.elim
|cons x r=>cases x with
 |row v=>exact fun z=>h v r z.1 z.2
 |_=>exact False.elim
end
section
variable {g:Cx} {T:Tabs} {a a':Hp} {n m i:Nat} {v x y z w:AV} {xs ys:List AV} {o o':AObj} {hs:Hs} {name:Str} {C:Cfg}
theorem trav_inv {α β:Type} {f:α→Option β} {k:β→α} (hk:∀ x y,f x=some y→x=k y) {l:List α}:∀ {l':List β},trav f l=some l'→l=l'.map k:=by
 induction l with
|nil=>intro l' e;cases e;rfl
|cons x r ih=>
  intro l' e
  obtain ⟨y,l,h1,h2,rfl⟩:=trav_cons e
  rw [hk _ _ h1,ih h2];rfl
theorem toStr_s {s:Str} (e:toStr v=some s):v=.str s:=by
 cases v<;>first|(cases e;done)|exact congrArg AV.str (Option.some.inj e)
theorem toNat_s {k:Nat} (e:toNat v=some k):v=.nat k:=by
 cases v with
|int i=>cases i with
 |ofNat j=>exact congrArg AV.nat (Option.some.inj e)
 |negSucc=>cases e
|_=>cases e
theorem toPair_s {q:Str×Str} (e:toPair v=some q):v=.tup [.str q.1,.str q.2]:=by
 obtain ⟨q,_,rfl⟩:=Option.map_eq_some_iff.mp e
 exact q.2
theorem mkO_s {k:Nat} (e:mkO k xs=some o):itemsO o=some xs:=by
 unfold mkO at e
 split at e
 ·cases e;rfl
 ·obtain ⟨l,e1,rfl⟩:=Option.map_eq_some_iff.mp e
  rw [trav_inv (fun _ _=>toStr_s) e1];rfl
 ·obtain ⟨l,e1,rfl⟩:=Option.map_eq_some_iff.mp e
  rw [trav_inv (fun _ _=>toNat_s) e1];rfl
 ·obtain ⟨l,e1,rfl⟩:=Option.map_eq_some_iff.mp e
  rw [trav_inv (k:=fun q:Str×Str=>AV.tup [.str q.1,.str q.2]) (fun _ _=>toPair_s) e1];rfl
 ·cases e
theorem isL_s (e:isL o=true):∃ xs,itemsO o=some xs:=by
 cases o<;>first|exact ⟨_,rfl⟩|cases e
theorem treeO_s {t:List Row} (e:treeO o=some t):o=.tree t:=by
 cases o<;>first|(cases e;done)|exact congrArg AObj.tree (Option.some.inj e)
theorem dssO_s {t:SS} (e:dssO o=some t):o=.dss t:=by
 cases o<;>first|(cases e;done)|exact congrArg AObj.dss (Option.some.inj e)
theorem locOf_s {q:Nat×Part} (e:locOf x=some q):x=.loc q.1 q.2:=by
 cases x<;>first|(cases e;done)|(cases e;rfl)
theorem view_of {p:Part} {po:PObj} (e:a[n]?=some o) (h:view n o p=some po):viewAt a n p=some po:=Option.bind_eq_some_iff.mpr ⟨o,e,h⟩
theorem listOf_of {p:Part} (e:a[n]?=some o) (h:view n o p=some (.list xs)):listOf a (.loc n p)=some xs:=by
 show (viewAt a n p).bind _=_
 rw [view_of e h];rfl
theorem rowL_s {k:RK} {r:Row} {l:List Nat} (h:rowL k r=some l):rview n i k r=.list (intsAV l):=by
 cases k<;>first|(cases h;done)|(cases h;rfl)
theorem lstO_i {P:Prop} {K:AObj→Hs→Prop} (h:∀ o xs hs',listOf a x=some xs→itemsO o=some xs→K o hs'→P):lstO a x hs K→P:=by
 cases x with
|lst xs=>exact h _ xs hs rfl rfl
|loc n p=>
  refine optK_i fun o e=>?_
  cases p with
 |root=>exact ifK_i fun e1=>by obtain ⟨xs,e1⟩:=isL_s e1;exact h o xs hs (listOf_of e (itemsO_view e1).1) e1
 |of i k=>exact optK_i fun t e1=>rowH_i fun r hs' e2=>optK_i fun l e3=>h _ _ hs' (listOf_of (treeO_s e1▸e) ((view_row e2).trans (congrArg some (rowL_s e3)))) rfl
 |_=>exact False.elim
|_=>exact False.elim
theorem appO_s (e:appO o v=some o'):∃ xs,itemsO o=some xs∧itemsO o'=some (xs++[v])∧xs.length=lenO o:=by
 cases o<;>first|(cases e;done)|skip
 ·cases e;exact ⟨_,rfl,rfl,rfl⟩
 ·obtain ⟨s,e1,rfl⟩:=Option.map_eq_some_iff.mp e
  rw [toStr_s e1];exact ⟨_,rfl,congrArg some List.map_append,List.length_map ..⟩
 ·obtain ⟨s,e1,rfl⟩:=Option.map_eq_some_iff.mp e
  rw [toNat_s e1];exact ⟨_,rfl,congrArg some List.map_append,List.length_map ..⟩
 ·obtain ⟨s,e1,rfl⟩:=Option.map_eq_some_iff.mp e
  rw [toPair_s e1];exact ⟨_,rfl,congrArg some List.map_append,List.length_map ..⟩
theorem lenO_s (e:itemsO o=some xs):xs.length=lenO o:=by
 cases o<;>first|(cases e;done)|(cases e;first|rfl|exact List.length_map ..)
theorem addO_s {o₂:AObj} (e:addO o o'=some o₂) (e1:itemsO o=some xs) (e2:itemsO o'=some ys):itemsO o₂=some (xs++ys):=by
 obtain ⟨q,_,rfl⟩:=Option.map_eq_some_iff.mp e
 exact q.2 _ _ e1 e2
theorem opO_s {f:{α:Type}→List α→List α} (hf:∀ {α β:Type} (k:α→β) (l:List α),f (l.map k)=(f l).map k) (e:itemsO o=some xs):itemsO (opO f o)=some (f xs):=by
 cases o<;>first|(cases e;done)|(cases e;first|rfl|exact congrArg some (hf _ _).symm)
theorem txsO_s {l:List Str} (e:txsO o=some l):itemsO o=some (strsAV l):=by
 cases o<;>first|(cases e;done)|skip
 ·exact congrArg some (trav_inv (fun _ _=>toStr_s) e)
 ·cases e;rfl
theorem isNone_s (e:isNone x=true):x=.none:=by
 unfold isNone at e
 split at e
 ·rfl
 ·cases e
end
section
variable {g:Cx} {T:Tabs} {a a':Hp} {n m i:Nat} {v x y z w:AV} {xs ys:List AV} {o o':AObj} {hs:Hs} {name:Str} {C:Cfg} {op:CmpOp} {K:KE} {sc:Scope} {vs:Vars} {p:Pos}
theorem nameV_s {k:Str} (G:Gl g T) (e:nameV T sc vs k=some v):EvR g n sc vs (.Name k p) a v a:=by
 obtain ⟨kd,e1,e2⟩:=Option.bind_eq_some_iff.mp e
 clear e
 cases kd with
|«local»=>exact .loc e1 e2
|cell=>exact .cell (.inl rfl) e1 e2
|free=>exact .cell (.inr rfl) e1 e2
|globalImplicit=>exact .glob G e1 e2
|globalExplicit=>cases e2
theorem constAV_s {c:Const} {k:Nat}:constAV c=some v→EvR g n sc vs (.Constant c k p) a v a:=by
 cases c with
|none=>exact fun e=>Option.some.inj e▸.none
|bool=>exact fun e=>Option.some.inj e▸.bool
|int=>exact fun e=>Option.some.inj e▸.int
|str=>exact fun e=>have z:=bif_some e;z.2▸.str z.1
|_=>exact fun e=>nomatch e
theorem tru_s {b:Bool}:tru v=some b→TruR g a v b:=by
 cases v with
|val v=>cases v with
 |none=>exact fun e=>Option.some.inj e▸.none
 |bool=>exact fun e=>Option.some.inj e▸.bool
 |_=>exact fun e=>nomatch e
|int=>exact fun e=>Option.some.inj e▸.int
|str=>exact fun e=>Option.some.inj e▸.str
|_=>exact fun e=>nomatch e
theorem simpS_s {e:Expr} {s:Str} (G:Gl g T) (h:simpS T sc e=some s):EvN g sc e (.str s):=by
 unfold simpS at h
 cases q:asSt e with
|some c=>
  rw [q] at h
  obtain ⟨hs,rfl⟩:=bif_some h
  obtain ⟨c,k,p,rfl⟩:=c
  exact .str hs
|none=>
  rw [q] at h
  clear q
  obtain ⟨x,_,h⟩:=Option.bind_eq_some_iff.mp h
  obtain ⟨x,p,rfl⟩:=x
  cases z:isKind .globalImplicit (look x sc.names) with
 |false=>rw [z] at h;cases h
 |true=>
   rw [z] at h
   obtain ⟨v,e2,e3⟩:=Option.bind_eq_some_iff.mp h
   exact .glob G (isKind_iff z) (toStr_s e3▸e2)
noncomputable def eqOp (n:Bool):CmpOp:=bif n then .NotEq else .Eq
theorem cmpEq_s {n:Bool} {K:Bool→Hs→Prop}:cmpEq n x y a hs K→∃ b hs',CmpR g (eqOp n) x y a b∧K b hs':=by
 cases x with
|str s=>cases y with
 |str q=>exact fun h=>⟨_,_,(by cases n;exact .eqS;exact .neS),h⟩
 |val v=>cases v with
  |none=>exact ifK_i fun e h=>⟨true,_,(by rw [e];exact .neNS),h⟩
  |_=>exact False.elim
 |_=>exact False.elim
|int i=>cases y with
 |int j=>exact fun h=>⟨_,_,(by cases n;exact .eqI;exact .neI),h⟩
 |_=>exact False.elim
|loc=>
  cases hs with
 |nil=>exact False.elim
 |cons k r=>cases k with
  |b c=>exact optK_i fun xs e1=>optK_i fun ys e2 h=>⟨_,_,(by cases n;exact .eqL h.1 e1 e2;exact .neL h.1 e1 e2),h.2⟩
  |_=>exact False.elim
|_=>exact False.elim
theorem isNo_s {b:Bool}:isNo x=some b→CmpR g .Is x .none a b∧CmpR g .IsNot x .none a (!b):=by
 have gen:(bif someV x then some false else none)=some b→CmpR g .Is x .none a b∧CmpR g .IsNot x .none a (!b):=fun e=>have z:=bif_some e;z.2▸⟨.isS z.1,.isnS z.1⟩
 cases x with
|val v=>cases v with
 |none=>exact fun e=>Option.some.inj e▸⟨.isN,.isnN⟩
 |_=>exact gen
|_=>exact gen
theorem cmpIn_s {K:Bool→Hs→Prop}:cmpIn x y a hs K→∃ b hs',InR g x y a b∧K b hs':=by
 cases y with
|str q=>exact optK_i fun s e h=>⟨_,_,toStr_s e▸.str,h⟩
|tup xs=>exact optK_i fun s e=>optK_i fun l e1 h=>⟨_,_,toStr_s e▸.tup (trav_inv (fun _ _=>toStr_s) e1),h⟩
|loc n p=>
  cases p<;>first|exact False.elim|skip
  refine optK_i fun o e=>?_
  have gen:(optK (toStr x) fun s=>optK (txsO o) fun l=>K (inB s l) hs)→∃ b hs',InR g x (.loc n .root) a b∧K b hs':=optK_i fun s e1=>optK_i fun l e2 h=>⟨_,_,toStr_s e1▸.list (listOf_of e (itemsO_view (txsO_s e2)).1),h⟩
  cases o with
 |dss es=>exact optK_i fun s e1 h=>⟨_,_,toStr_s e1▸.dss (view_of e rfl),h⟩
 |dictI es=>cases x with
  |int=>exact fun h=>⟨_,_,.dictI (view_of e rfl),h⟩
  |_=>exact False.elim
 |_=>exact gen
|_=>exact False.elim
theorem orV_s {R:AV→Hp→Prop}:orV hs R K→∃ v a' hs',R v a'∧K v a' hs':=by
 cases hs with
|nil=>exact False.elim
|cons k r=>cases k with
 |exp v a'=>exact fun h=>⟨v,a',r,h⟩
 |_=>exact False.elim
theorem orC_s {R:Bool→Prop} {K:Bool→Hs→Prop}:orC hs R K→∃ b hs',R b∧K b hs':=by
 cases hs with
|nil=>exact False.elim
|cons k r=>cases k with
 |b c=>exact fun h=>⟨c,r,h⟩
 |_=>exact False.elim
theorem orI_s {R:AV→Prop} {K:AV→Hs→Prop}:orI hs R K→∃ v hs',R v∧K v hs':=by
 cases hs with
|nil=>exact False.elim
|cons k r=>cases k with
 |v v=>exact fun h=>⟨v,r,h⟩
 |_=>exact False.elim
theorem goCmp_s {K:Bool→Hs→Prop}:goCmp g op x y a hs K→∃ b hs',CmpR g op x y a b∧K b hs':=by
 cases op with
|Eq=>exact cmpEq_s (n:=false)
|NotEq=>exact cmpEq_s (n:=true)
|Is=>exact ifK_i fun e=>optK_i fun b e1 h=>⟨_,_,isNone_s e▸(isNo_s e1).1,h⟩
|IsNot=>exact ifK_i fun e=>optK_i fun b e1 h=>⟨_,_,isNone_s e▸(isNo_s e1).2,h⟩
|In=>exact fun h=>by obtain ⟨b,hs',e,h⟩:=cmpIn_s h;exact ⟨b,hs',e.1,h⟩
|NotIn=>exact fun h=>by obtain ⟨b,hs',e,h⟩:=cmpIn_s (K:=fun b=>K (!b)) h;exact ⟨_,hs',e.2,h⟩
|Lt=>
  cases x<;>first|exact False.elim|skip
  cases y<;>first|exact False.elim|exact fun h=>⟨_,_,.lt,h⟩
|LtE=>
  cases x<;>first|exact orC_s|skip
  cases y<;>first|exact False.elim|exact fun h=>⟨_,_,.le,h⟩
|Gt=>
  cases x<;>first|exact False.elim|skip
  cases y<;>first|exact False.elim|exact fun h=>⟨_,_,.gt,h⟩
|GtE=>exact orC_s
theorem goBin_s {op:Operator}:goBin g op x y a hs K→∃ z a' hs',BinR g op x y a z a'∧K z a' hs':=by
 cases op with
|Add=>
  have gen:(lstO a x hs fun o hs=>lstO a y hs fun o' hs=>need (Nat.ble (lenO o+lenO o') cap) hs fun hs=>optK (addO o o') fun o₂=>K (.loc a.length .root) (a++[o₂]) hs)→∃ z a' hs',BinR g .Add x y a z a'∧K z a' hs':=
   lstO_i fun o xs hs1 e1 e2=>lstO_i fun o' ys hs2 e3 e4=>need_i fun e5 hs3=>optK_i fun o₂ e6 h=>⟨_,_,_,.addL e1 e3 (by rw [lenO_s e2,lenO_s e4];exact e5) (addO_s e6 e2 e4),h⟩
  cases x with
 |int=>cases y with
  |int=>exact fun h=>⟨_,_,_,.addI,h⟩
  |_=>exact False.elim
 |str=>cases y with
  |str=>exact need_i fun e _ h=>⟨_,_,_,.addS e,h⟩
  |_=>exact False.elim
 |_=>exact gen
|Sub=>cases x with
 |int=>cases y with
  |int=>exact fun h=>⟨_,_,_,.subI,h⟩
  |_=>exact False.elim
 |_=>exact False.elim
|Mult=>
  have gen:(lstO a x hs fun o hs=>optK (toNat y) fun k=>mulK k o a hs K)→∃ z a' hs',BinR g .Mult x y a z a'∧K z a' hs':=by
   refine lstO_i fun o xs hs1 e1 e2=>optK_i fun k e3=>?_
   rw [toNat_s e3]
   match k with
  |0=>exact fun h=>⟨_,_,_,.mulL (c:=false) e1 rfl,h⟩
  |1=>exact fun h=>⟨_,_,_,.mulL (c:=true) e1 e2,h⟩
  |_+2=>exact False.elim
  cases x with
 |int=>exact orV_s
 |_=>exact gen
|_=>exact orV_s
theorem idx_nat {j len:Nat} (h:j<len):idx (.ofNat j) len=some j:=by
 show (bif Nat.blt j len then some j else none)=_
 rw [show Nat.blt j len=true from Nat.ble_eq_true_of_le h];rfl
theorem ItemR.nat {j:Nat} (e:listOf a x=some xs) (hv:xs[j]?=some v):ItemR g a x (.nat j) v:=.list e (idx_nat (List.getElem?_eq_some_iff.mp hv).1) hv
theorem goItem_s {K:AV→Hs→Prop}:goItem g a x y hs K→∃ v hs',ItemR g a x y v∧K v hs':=by
 cases x with
|str s=>exact optK_i fun j e1=>kind_i fun d hs' h=>⟨_,_,toNat_s e1▸.str h.1,h.2⟩
|tup xs=>exact optK_i fun j e1=>valH_i fun d hs' e2 h=>⟨_,_,toNat_s e1▸.tup e2,h⟩
|lst xs=>exact optK_i fun j e1=>valH_i fun d hs' e2 h=>⟨_,_,toNat_s e1▸.nat rfl e2,h⟩
|val=>exact orI_s
|loc n p=>cases p with
 |root=>
   refine optK_i fun o e=>?_
   cases o with
  |dss=>exact optK_i fun s e1=>strH_i fun q hs' e2 h=>⟨_,_,toStr_s e1▸.dss (view_of e rfl) e2,h⟩
  |dictI=>cases y with
   |int=>exact valH_i fun q hs' e2 h=>⟨_,_,.dictI (view_of e rfl) e2,h⟩
   |_=>exact False.elim
  |txs l=>exact optK_i fun j e1=>strH_i fun q hs' e2 h=>⟨_,_,toNat_s e1▸.nat (listOf_of e rfl) (by rw [strsAV,List.getElem?_map,e2];rfl),h⟩
  |list=>cases y with
   |int i=>cases i with
    |ofNat=>exact valH_i fun q hs' e2 h=>⟨_,_,.nat (listOf_of e rfl) e2,h⟩
    |negSucc=>exact optK_i fun j e1=>optK_i fun v e2 h=>⟨_,_,.list (listOf_of e rfl) e1 e2,h⟩
   |_=>exact False.elim
  |_=>exact False.elim
 |rows=>
   refine optK_i fun o e=>optK_i fun t e1=>optK_i fun j e2=>need_i fun e3 hs' h=>?_
   have e3:j<t.length:=Nat.le_of_ble_eq_true e3
   exact ⟨_,_,toNat_s e2▸.nat (listOf_of (treeO_s e1▸e) rfl) (by rw [List.getElem?_map,List.getElem?_range e3];rfl),h⟩
 |_=>exact False.elim
|_=>exact False.elim
theorem locK_i {P:Prop} {K:Nat×Part→Prop} (h:∀ n p,x=.loc n p→K (n,p)→P):optK (locOf x) K→P:=optK_i fun q e=>h q.1 q.2 (locOf_s e)
theorem goGet_s {K:AV→Hs→Prop} (G:Gl g T):goGet T a x name hs K→∃ v hs',GetR g a x name v∧K v hs':=by
 refine locK_i fun n p e=>optK_i fun o e1=>?_
 rw [e]
 clear e
 cases o with
|inst C fs=>
  cases p<;>first|exact False.elim|skip
  exact ifK_i fun e2=>optK_i fun v e3=>ifK_i fun e4 h=>⟨_,_,.inst G (inst_at e1) e2 e3 e4,h⟩
|tree t=>cases p with
 |root=>
   refine ifK_i fun e2 h=>?_
   rw [Bool.and_eq_true] at e2
   exact ⟨_,_,.inst G (tree_at e1) e2.1 (by rw [strB_iff.mp e2.2];rfl) rfl,h⟩
 |of i k=>
   cases k<;>first|exact False.elim|skip
   exact ifK_i fun e2=>rowH_i fun r hs' e3=>optK_i fun v e4=>ifK_i fun e5 h=>⟨_,_,.inst G (row_at e1 e3) e2 e4 e5,h⟩
 |_=>exact False.elim
|_=>exact False.elim
theorem setRow_s {r:Row} {s:Str} (e:(strB name (Str.ofString "name")||strB name (Str.ofString "value"))=true):setL name (.str s) (rowFs n i r)=rowFs n i (setRow name s r):=by
 rcases (Bool.or_eq_true _ _).mp e with e|e
 ·rw [strB_iff.mp e];rfl
 ·rw [strB_iff.mp e];rfl
theorem goPut_s {K:Hp→Hs→Prop} (G:Gl g T):goPut T a x name v hs K→∃ n p a' hs',x=.loc n p∧PutR g a n p name v a'∧K a' hs':=by
 refine locK_i fun n p e=>optK_i fun o e1=>?_
 rw [e]
 clear e
 cases o with
|inst C fs=>
  cases p<;>first|exact False.elim|skip
  refine ifK_i fun e2 h=>?_
  rw [Bool.and_eq_true] at e2
  exact ⟨_,_,_,_,rfl,.inst G e1 e2.1 e2.2,h⟩
|tree t=>cases p with
 |of i k=>
   cases k<;>first|exact False.elim|skip
   refine ifK_i fun e2=>optK_i fun s e3=>rowH_i fun r hs' e4 h=>?_
   rw [Bool.and_eq_true] at e2
   exact ⟨_,_,_,_,rfl,toStr_s e3▸.row G e2.1 e1 e4 (setRow_s e2.2),h⟩
 |_=>exact False.elim
|_=>exact False.elim
theorem goSet_s {K:Hp→Hs→Prop}:goSet a x y v hs K→∃ a' hs',SetR g a x y v a'∧K a' hs':=by
 cases x with
|loc n p=>
  cases p<;>first|exact False.elim|skip
  refine optK_i fun o e=>?_
  cases o with
 |dss=>exact optK_i fun s e1=>optK_i fun q e2=>need_i fun e3 hs' h=>⟨_,_,toStr_s e1▸toStr_s e2▸.dss e e3,h⟩
 |dictI=>cases y with
  |int=>exact need_i fun e3 hs' h=>⟨_,_,.dictI e e3,h⟩
  |_=>exact False.elim
 |list=>cases y with
  |int i=>cases i with
   |ofNat=>exact need_i fun e3 hs' h=>⟨_,_,.list e (Nat.le_of_ble_eq_true e3),h⟩
   |negSucc j=>match j with
    |0=>exact ifK_i fun e3 h=>⟨_,_,.last e (Nat.le_of_ble_eq_true e3),h⟩
    |_+1=>exact False.elim
  |_=>exact False.elim
 |_=>exact False.elim
|_=>exact False.elim
theorem goMeth_s {K:Value→Hs→Prop} (G:Gl g T):goMeth T a x name hs K→∃ v hs',MethR g a x name v∧K v hs':=by
 cases x with
|str=>exact orK_i (fun e h=>⟨_,_,strB_iff.mp e▸.join,h⟩) fun _=>ifK_i fun e h=>⟨_,_,strB_iff.mp e▸.split,h⟩
|loc n p=>
  refine optK_i fun o e=>?_
  have gen:ifK (strB name (Str.ofString "append")&&isL o) (K (.builtin "list.append") hs)→∃ v hs',MethR g a (.loc n .root) name v∧K v hs':=ifK_i fun e1 h=>by
   rw [Bool.and_eq_true] at e1
   obtain ⟨xs,e2⟩:=isL_s e1.2
   exact ⟨_,_,strB_iff.mp e1.1▸.append (listOf_of e (itemsO_view e2).1),h⟩
  cases o with
 |inst C fs=>
   cases p<;>first|exact False.elim|skip
   refine optK_i fun f e1=>?_
   cases e2:look name fs with
  |none=>exact fun h=>⟨_,_,.inst G (inst_at e) e1 e2,h⟩
  |some=>exact False.elim
 |tree t=>cases p with
  |root=>exact ifK_i fun e1=>optK_i fun f e2 h=>⟨_,_,.inst G (tree_at e) e2 (by rw [look,(Bool.not_eq_true' _).mp e1];rfl),h⟩
  |of i k=>exact ifK_i fun e1=>rowH_i fun r hs' e2=>optK_i fun l e3 h=>⟨_,_,strB_iff.mp e1▸.append (listOf_of e ((view_row e2).trans (congrArg some (rowL_s e3)))),h⟩
  |rows=>exact ifK_i fun e1 h=>⟨_,_,strB_iff.mp e1▸.append (listOf_of e rfl),h⟩
  |_=>exact False.elim
 |dss=>
   cases p<;>first|exact False.elim|skip
   exact orK_i (fun e1 h=>⟨_,_,strB_iff.mp e1▸.get (view_of e rfl),h⟩) fun _=>ifK_i fun e1 h=>⟨_,_,strB_iff.mp e1▸.pop (view_of e rfl),h⟩
 |_=>cases p<;>first|exact False.elim|exact gen
|_=>exact False.elim
end
theorem ofString_inj {x y:String} (h:Str.ofString x=Str.ofString y):x=y:=by
 rw [Str.ofString_eq_toList,Str.ofString_eq_toList] at h
 have h2:x.toList.map Char.toNat=y.toList.map Char.toNat:=Array.mk.inj (Str.mk.inj h)
 refine String.toList_inj.mp (List.map_inj_right (fun a b e=>Char.toNat_inj.mp e) |>.mp h2)
theorem isId_s {id k:String} (h:isId id k=true):id=k:=ofString_inj (strB_iff.mp h)
section
variable {g:Cx} {T:Tabs} {a a' a₁ a₂:Hp} {n m i:Nat} {v x y z w:AV} {xs ys pre args:List AV} {o o':AObj} {hs:Hs} {name:Str} {C:Cfg} {K:KE} {sc:Scope} {vs:Vars} {p:Pos} {es:List Expr} {id:String}
theorem goCall_s {lvl:Nat} {f:Addr}:goCall g lvl f args a hs K→∃ v a' hs',CD g lvl All f args a v a'∧K v a' hs':=by
 cases hs with
|nil=>exact False.elim
|cons h r=>cases h with
 |call κ v₀ a₁=>exact ifK_i fun hκ=>optK_i fun a₀ e0=>optK_i fun args₀ e1=>optK_i fun a₂ e2=>optK_i fun v e3 h=>⟨v,a₂,r,CR.frame κ h.1 hκ e0 e1 e2 e3,h.2⟩
 |_=>exact False.elim
theorem goLen_s:goLen g x a hs K→∃ v a' hs',CallR g (.builtin "len") [x] a v a'∧K v a' hs':=by
 have gen:(lstO a x hs fun o hs=>K (.nat (lenO o)) a hs)→∃ v a' hs',CallR g (.builtin "len") [x] a v a'∧K v a' hs':=lstO_i fun o xs hs' e1 e2 h=>⟨_,_,_,.lenL e1 (lenO_s e2),h⟩
 cases x with
|str=>exact fun h=>⟨_,_,_,.lenS,h⟩
|loc n p=>cases p with
 |rows=>exact optK_i fun o e=>optK_i fun t e1 h=>⟨_,_,_,.lenL (listOf_of (treeO_s e1▸e) rfl) (by rw [List.length_map,List.length_range]),h⟩
 |_=>exact gen
|val=>exact orV_s
|_=>exact gen
theorem goApp_s:goApp x y a hs K→∃ v a' hs',CallR g (.builtin "list.append") [x,y] a v a'∧K v a' hs':=by
 refine locK_i fun n p e=>optK_i fun o e1=>?_
 rw [e]
 clear e
 cases p with
|root=>exact optK_i fun o' e2=>need_i fun e3 hs' h=>by obtain ⟨xs,z1,z2,z3⟩:=appO_s e2;exact ⟨_,_,_,.app e1 z1 z2 (z3▸e3),h⟩
|rows=>
  refine optK_i fun t e2=>locK_i fun i q e3=>?_
  rw [e3]
  cases hs with
 |nil=>exact False.elim
 |cons h r=>cases h with
  |row r=>
    cases q<;>first|exact False.elim|skip
    exact fun z=>need_i (fun e4 hs' h=>⟨_,_,_,.appJoin (treeO_s e2▸e1) z.1 (Nat.le_of_ble_eq_true (ifK_s z.2).1) e4,h⟩) (ifK_s z.2).2
  |_=>exact False.elim
|of i k=>exact optK_i fun t e2=>optK_i fun j e3=>rowH_i fun r hs' e4=>optK_i fun l e5=>need_i fun e6 hs' h=>⟨_,_,_,toNat_s e3▸.appRow (treeO_s e2▸e1) e4 e5 e6,h⟩
|_=>exact False.elim
theorem goPop_s {s:Str} {d:Bool} {rest:List AV} (hr:rest=bif d then [.none] else []):goPop n s d a hs K→∃ v a' hs',CallR g (.builtin "dict.pop") (.loc n .root::.str s::rest) a v a'∧K v a' hs':=by
 refine optK_i fun o e=>optK_i fun es e1=>?_
 have e:=dssO_s e1▸e
 cases hs with
|nil=>exact False.elim
|cons h r=>cases h with
 |b c=>cases c with
  |true=>exact strH_i fun q hs' e2=>need_i fun e3 hs' h=>⟨_,_,_,.pop (by cases d;exact .inl hr;exact .inr hr) e e2 e3,h⟩
  |false=>exact ifK_i fun e2 h=>⟨_,_,_,by rw [hr,e2];exact .popN (view_of e rfl) h.1,h.2⟩
 |_=>exact False.elim
theorem goBlt_s:goBlt g id args a hs K→∃ v a' hs',CallR g (.builtin id) args a v a'∧K v a' hs':=by
 match args with
|[]=>exact False.elim
|[x]=>
  refine orK_i (fun e=>isId_s e▸goLen_s) fun _=>orK_i (fun e=>?_) fun _=>orV_s
  rw [isId_s e]
  cases x with
 |loc n p=>
   cases p<;>first|exact False.elim|skip
   refine optK_i fun o e=>?_
   have gen:(optK (txsO o) fun l=>need (Nat.blt l.length 60) hs fun hs=>K (.loc a.length .root) (a++[.txs (sortS l)]) hs)→∃ v a' hs',CallR g (.builtin "sorted") [.loc n .root] a v a'∧K v a' hs':=
    optK_i fun l e1=>need_i fun e2 hs' h=>⟨_,_,_,.sortL (listOf_of e (itemsO_view (txsO_s e1)).1) e2,h⟩
   cases o with
  |dss=>exact need_i fun e2 hs' h=>⟨_,_,_,.sortD (view_of e rfl) e2,h⟩
  |_=>exact gen
 |_=>exact False.elim
|[x,y]=>
  refine orK_i (fun e=>isId_s e▸goApp_s) fun _=>?_
  cases x with
 |str s=>exact orK_i (fun e=>isId_s e▸lstO_i fun o xs hs' e1 e2=>optK_i fun l e3=>need_i fun e4 hs'=>need_i fun e5 hs' h=>⟨_,_,_,.join (Option.some.inj (e2.symm.trans (txsO_s e3))▸e1) e4 e5,h⟩) fun _=>orV_s
 |int=>exact orV_s
 |loc n p=>
   cases p<;>first|exact False.elim|skip
   exact ifK_i fun e=>isId_s e▸optK_i fun s e1=>toStr_s e1▸goPop_s rfl
 |_=>exact False.elim
|[x,y,z]=>
  cases x with
 |loc n p=>
   cases p<;>first|exact False.elim|skip
   refine optK_i fun s e1=>orK_i (fun e=>isId_s e▸optK_i fun o e2=>optK_i fun es e3=>optK_i fun q e4 h=>⟨_,_,_,toStr_s e1▸toStr_s e4▸.get (view_of (dssO_s e3▸e2) rfl),h⟩) fun _=>ifK_i fun e=>?_
   rw [Bool.and_eq_true] at e
   rw [isId_s e.1,isNone_s e.2,toStr_s e1]
   exact goPop_s rfl
 |_=>exact False.elim
|_::_::_::_::_=>exact False.elim
theorem goTyp_s:goTyp id args a hs K→∃ v a' hs',CallR g (.type id) args a v a'∧K v a' hs':=by
 match args with
|[]=>exact False.elim
|[x]=>
  refine orK_i (fun e=>isId_s e▸?_) fun _=>orK_i (fun e=>isId_s e▸lstO_i fun o xs hs' e1 e2 h=>⟨_,_,_,.list e1 e2,h⟩) fun _=>ifK_i fun e=>isId_s e▸optK_i fun k e1=>?_
  ·cases x with
  |val v=>cases v with
   |bool=>exact fun h=>⟨_,_,_,.intB,h⟩
   |_=>exact False.elim
  |int=>exact fun h=>⟨_,_,_,.intI,h⟩
  |_=>exact False.elim
  ·rw [toNat_s e1]
   match k with
  |0=>exact fun h=>⟨_,_,_,.strI (.inl ⟨rfl,rfl⟩),h⟩
  |1=>exact fun h=>⟨_,_,_,.strI (.inr ⟨rfl,rfl⟩),h⟩
  |_+2=>exact False.elim
|_::_::_=>exact False.elim
theorem goFv_s {fv:Value} (G:Gl g T):goFv g T m fv pre args a hs K→∃ v a' hs',(∀ {sc:Scope} {vs:Vars} {es:List Expr} {a₀:Hp},es.all noStar=true→EsR g (m+1) sc vs es a₀ args a→WithR g (m+1) fv pre sc vs es a₀ v a')∧K v a' hs':=by
 cases fv with
|ref f=>
  cases e:T.fn f with
 |some d=>
   show (match T.fn f with|some _=>goCall g (m+1) f (pre++args) a hs K|none=>(match pre with|[]=>goCls g T m f args a hs K|_=>False))→_
   rw [e]
   exact fun h=>by obtain ⟨v,a',hs',z,h⟩:=goCall_s h;exact ⟨v,a',hs',fun hn H=>.fn (G.isFn e) hn H z,h⟩
 |none=>
   show (match T.fn f with|some _=>goCall g (m+1) f (pre++args) a hs K|none=>(match pre with|[]=>goCls g T m f args a hs K|_=>False))→_
   rw [e]
   cases pre with
  |cons=>exact False.elim
  |nil=>
    refine optK_i fun i e1 h=>?_
    obtain ⟨v,a₂,hs1,z,h1⟩:=goCall_s h
    clear h
    revert h1
    refine ifK_i fun e2=>kind_i fun j hs2=>?_
    have z:=isNone_s e2▸z
    match j with
   |0=>exact fun h=>⟨_,_,_,fun hn H=>.cls G e1 hn H z fun C h O=>⟨C,O,.grow fun _ _ e=>e⟩,h⟩
   |1=>exact fun h=>⟨_,_,_,fun hn H=>.cls G e1 hn H z fun C h' O=>O.tree h.1.1 h.1.2,h.2⟩
   |_+2=>exact False.elim
|builtin id=>exact fun h=>by obtain ⟨v,a',hs',z,h⟩:=goBlt_s h;exact ⟨v,a',hs',fun hn H=>.blt hn H z,h⟩
|type id=>exact fun h=>by obtain ⟨v,a',hs',z,h⟩:=goTyp_s h;exact ⟨v,a',hs',fun hn H=>.typ hn H z,h⟩
|_=>exact False.elim
end
structure Snd (g:Cx) (m:Nat) (sc:Scope) (d:Nat) (r:Rec):Prop where
 e:∀ {vs:Vars} {e:Expr} {a:Hp} {hs:Hs} {K:KE} {P:Prop},(∀ v a' hs',EvR g (m+1) sc vs e a v a'→K v a' hs'→P)→r.e vs e a hs K→P
 t:∀ {vs:Vars} {e:Expr} {a:Hp} {hs:Hs} {K:KT} {P:Prop},(∀ b a' hs',TvR g (m+1) sc vs e a b a'→K b a' hs'→P)→r.t vs e a hs K→P
 s:∀ {vs:Vars} {ss:List Stmt} {a:Hp} {hs:Hs} {K:KS} {P:Prop},(∀ f vs' a' hs',SsR g (m+1) (fun i=>i<d) sc vs ss a f vs' a'→K f vs' a' hs'→P)→r.s vs ss a hs K→P
section
variable {g:Cx} {T:Tabs} {a a' a₁ a₂:Hp} {n m i d:Nat} {v x y z w:AV} {xs ys pre args:List AV} {o o':AObj} {hs:Hs} {name:Str} {C:Cfg} {K:KE} {sc:Scope} {vs:Vars} {p pos:Pos} {es:List Expr} {id:String} {r:Rec} {P:Prop} {e f l s t:Expr}
theorem goEs_i (S:Snd g m sc d r):∀ {a:Hp} {hs:Hs} {K:List AV→Hp→Hs→Prop},(∀ xs a' hs',EsR g (m+1) sc vs es a xs a'→K xs a' hs'→P)→goEs r vs es a hs K→P:=by
 induction es with
|nil=>exact fun h=>h [] _ _ .nil
|cons e es ih=>exact fun h=>ifK_i fun hn=>S.e fun v a₁ hs₁ H=>ih fun xs a₂ hs₂ H'=>h _ _ _ (.cons hn H H')
theorem attrBase {env:Env} {t:Sem Value} (h:baseOk l=true):attributeBase l name env t=t:=by
 cases l with
|Call f=>cases f<;>first|rfl|cases h
|_=>rfl
theorem goCallE_i (S:Snd g m sc d r) (G:Gl g T) (h:∀ v a' hs',EvR g (m+1) sc vs (.Call f es [] pos) a v a'→K v a' hs'→P):goCallE g T m sc r vs f es pos a hs K→P:=by
 unfold goCallE
 cases asName f with
|some k=>
  obtain ⟨k,p,rfl⟩:=k
  refine optK_i fun fv e=>?_
  cases fv with
 |val fv=>exact ifK_i fun hn=>goEs_i S fun xs a₁ hs₁ H z=>by obtain ⟨v,a',hs',H',z⟩:=goFv_s G z;exact h v a' hs' (.call (nameV_s G e) (H' hn H)) z
 |_=>exact False.elim
|none=>
  refine optK_i fun q _=>?_
  obtain ⟨⟨l,name,ap⟩,rfl⟩:=q
  refine ifK_i fun hc=>S.e fun x a₁ hs₁ H z=>?_
  rw [Bool.and_eq_true,Bool.and_eq_true,Bool.and_eq_true] at hc
  obtain ⟨fv,hs₂,M,z⟩:=goMeth_s G z
  revert z
  exact goEs_i S fun xs a₃ hs₃ H' z=>by obtain ⟨v,a',hs',W,z⟩:=goFv_s G z;exact h v a' hs' (.meth hc.1.1.1 hc.1.1.2 hc.1.2 (fun _ _=>attrBase hc.2) H M (W hc.1.2 H')) z
theorem isC_s {i:Int} (h:isC i e=true):∃ k p,e=.Constant (.int i) k p:=by
 unfold isC at h
 cases q:asConst e with
|none=>rw [q] at h;cases h
|some c=>
  rw [q] at h
  obtain ⟨c,k,p,z⟩:=c
  exact ⟨k,p,(of_decide_eq_true h:c=_)▸z⟩
theorem isM1_s (h:isM1 e=true):∃ k p q,e=.UnaryOp .USub (.Constant (.int 1) k p) q:=by
 unfold isM1 at h
 cases q:asUn e with
|none=>rw [q] at h;cases h
|some c=>
  rw [q] at h
  obtain ⟨⟨o,x⟩,p,z⟩:=c
  have h:=(Bool.and_eq_true _ _).mp h
  obtain ⟨k,p',e2⟩:=isC_s h.2
  exact ⟨k,p',p,(of_decide_eq_true h.1:o=_)▸e2▸z⟩
noncomputable def SlOk (e:Expr):Sl→Prop
|.rev=>∃ k p p' q,e=.Slice none none (some (.UnaryOp .USub (.Constant (.int 1) k p) p')) q
|.revFrom=>∃ k p k' p' p'' q,e=.Slice none (some (.Constant (.int 0) k p)) (some (.UnaryOp .USub (.Constant (.int 1) k' p') p'')) q
|.upTo f=>∃ q,e=.Slice none (some f) none q
|.part f h=>∃ q,e=.Slice (some f) (some h) none q
|.item=>noSlice e=true
|.other=>True
theorem slice_s:SlOk e (slice e):=by
 cases e with
|Slice lo hi st q=>
  cases lo with
 |none=>cases hi with
  |none=>cases st with
   |none=>exact trivial
   |some st=>
     show SlOk _ (bif isM1 st then .rev else .other)
     cases h:isM1 st with
    |false=>exact trivial
    |true=>obtain ⟨k,p,q,rfl⟩:=isM1_s h;exact ⟨_,_,_,_,rfl⟩
  |some hi=>cases st with
   |none=>exact ⟨_,rfl⟩
   |some st=>
     show SlOk _ (bif isC 0 hi&&isM1 st then .revFrom else .other)
     cases h:isC 0 hi&&isM1 st with
    |false=>exact trivial
    |true=>
      rw [Bool.and_eq_true] at h
      obtain ⟨k,p,rfl⟩:=isC_s h.1
      obtain ⟨k,p,q,rfl⟩:=isM1_s h.2
      exact ⟨_,_,_,_,_,_,rfl⟩
 |some lo=>cases hi with
  |none=>exact trivial
  |some hi=>cases st with
   |none=>exact ⟨_,rfl⟩
   |some st=>exact trivial
|_=>exact rfl
theorem goSub_i (S:Snd g m sc d r) (h:∀ v a' hs',EvR g (m+1) sc vs (.Subscript l s pos) a v a'→K v a' hs'→P):goSub g r vs l s a hs K→P:=by
 refine S.e fun x a₁ hs₁ H=>?_
 have F:=slice_s (e:=s)
 revert F
 cases slice s with
|rev=>rintro ⟨k,p,p',q,e⟩;exact lstO_i fun o xs hs' e1 e2=>h _ _ _ (e▸.rev H e1 (opO_s (f:=List.reverse) (fun k l=>List.map_reverse.symm) e2))
|revFrom=>rintro ⟨k,p,k',p',p'',q,e⟩;exact lstO_i fun o xs hs' e1 e2=>h _ _ _ (e▸.revFrom H e1 (opO_s (f:=fun l=>(l.drop 1).reverse) (fun k l=>by rw [List.map_reverse,List.map_drop]) e2))
|upTo f=>rintro ⟨q,e⟩;exact S.e fun k a₂ hs₂ H'=>optK_i fun k e3=>lstO_i fun o xs hs' e1 e2=>h _ _ _ (e▸.upTo H (toNat_s e3▸H') e1 (opO_s (f:=List.take k) (fun k l=>List.map_take.symm) e2))
|part f f'=>rintro ⟨q,e⟩;exact optK_i fun s e0=>S.e fun i a₂ hs₂ H1=>S.e fun j a₃ hs₃ H2=>optK_i fun i e1=>optK_i fun j e2=>need_i fun e3 hs₄=>need_i fun e4 hs₅=>h _ _ _ (e▸.part (toStr_s e0▸H) (toNat_s e1▸H1) (toNat_s e2▸H2) e3 e4)
|item=>exact fun e=>S.e fun i a₂ hs₂ H' z=>by obtain ⟨v,hs',I,z⟩:=goItem_s z;exact h _ _ _ (.item e H H' I) z
|other=>exact fun _=>False.elim
theorem itTyp_i {fv:Str} {p:Pos} {K:Src→Hp→Hs→Prop} (S:Snd g m sc d r) (N:EvR g (m+1) sc vs (.Name fv p) a (.val (.type id)) a) (h:∀ src a' hs',ItR g (m+1) sc vs (.Call (.Name fv p) es [] pos) a src a'→K src a' hs'→P):itTyp id r vs es a hs K→P:=by
 rcases es with _|⟨e,_|⟨f,_|_⟩⟩
 ·exact False.elim
 ·exact ifK_i fun hn=>S.e fun v a₁ hs₁ H=>orK_i (fun ei=>optK_i fun j e1=>need_i fun e2 hs₂=>h _ _ _ (.range1 (isId_s ei▸N) hn (toNat_s e1▸H) e2)) fun _=>ifK_i fun ei=>lstO_i fun o xs hs' e1 _=>h _ _ _ (.enum (isId_s ei▸N) hn H e1)
 ·exact ifK_i fun hn=>S.e fun v a₁ hs₁ H=>S.e fun w a₂ hs₂ H'=>orK_i (fun ei=>optK_i fun i e1=>optK_i fun j e2=>need_i fun e3 hs₂=>need_i fun e4 hs₃=>h _ _ _ (.range2 (isId_s ei▸N) hn (toNat_s e1▸H) (toNat_s e2▸H') e3 e4)) fun _=>ifK_i fun ei=>lstO_i fun o xs hs' e1 _=>lstO_i fun o xs hs' e2 _=>h _ _ _ (.zip (isId_s ei▸N) hn H H' e1 e2)
 ·exact False.elim
theorem goIt_i {K:Src→Hp→Hs→Prop} (S:Snd g m sc d r) (G:Gl g T) (h:∀ src a' hs',ItR g (m+1) sc vs e a src a'→K src a' hs'→P):goIt T sc r vs e a hs K→P:=by
 unfold goIt
 have pl:ifK (noSet e) (r.e vs e a hs fun v a hs=>itPlain v a hs K)→P:=ifK_i fun hn=>S.e fun v a₁ hs₁ H=>lstO_i fun o xs hs' e1 _=>h _ _ _ (.plain hn H e1)
 cases asCall e with
|none=>exact pl
|some c=>
  obtain ⟨⟨k,es⟩,p,pos,e0⟩:=c
  cases q:nameV T sc vs k with
 |none=>dsimp only;rw [q];exact pl
 |some v=>
   dsimp only
   rw [q]
   dsimp only
   cases typId v with
  |none=>exact pl
  |some i=>
    obtain ⟨i,e2⟩:=i
    exact orK_i (fun _=>itTyp_i S (nameV_s G (e2▸q)) fun src a' hs' H=>h src a' hs' (e0▸H)) fun _=>pl
theorem EvR.keysP {elt tgt iter:Expr} {ifs:List Expr} {csc:Scope} {q:Str×Str} {n':Nat} {p:Part} {es':SS} (hp:KeyP elt tgt ifs q) (hc:(compOk sc csc&&isKind .local (look q.1 csc.names))=true) (hn:noSet iter=true) (H:EvR g n sc vs iter a (.loc n' p) a') (ev:viewAt a' n' p=some (.dictS es')) (hz:Nat.ble es'.length cap=true):
  EvR g n sc vs (.ListComp elt [⟨tgt,iter,ifs,0⟩] csc pos) a (.loc a'.length .root) (a'++[.txs ((es'.map (·.1)).filter fun k=>!strB k q.2)]):=by
 obtain ⟨p1,p2,p3,k,p4,p5,rfl,rfl,rfl⟩:=hp
 exact .keys hc hn H ev hz
theorem goComp_i {b:Bool} {elt:Expr} {gens:List Comprehension} {csc:Scope} (S:Snd g m sc d r) (G:Gl g T) (h:∀ v a' hs',EvR g (m+1) sc vs (.ListComp elt gens csc pos) a v a'→(∀ {D:Nat→Prop} {k:Str} {np p':Pos},b=true→StN sc k→SR g (m+1) D sc vs (.Assign [.Name k np] (.ListComp elt gens csc pos) p') a .next (setL k v vs) a')→K v a' hs'→P):goComp g T m sc b r vs elt gens csc a hs K→P:=by
 rcases gens with _|⟨⟨tgt,iter,ifs,ia⟩,_|_⟩
 ·exact False.elim
 ·refine ifK_i fun hc=>?_
  rw [Bool.and_eq_true] at hc
  obtain rfl:ia=0:=of_decide_eq_true hc.2
  dsimp only
  cases q:keyF elt tgt ifs with
 |some q'=>
   refine ifK_i fun hk=>S.e fun v a₁ hs₁ H=>locK_i fun n p e=>optK_i fun o e1=>?_
   rw [Bool.and_eq_true,Bool.and_eq_true] at hk
   cases p<;>first|exact False.elim|skip
   exact optK_i fun es e2=>need_i fun e3 hs₂=>h _ _ _ (.keysP q'.2 ((Bool.and_eq_true _ _).mpr ⟨hc.1,hk.2.1⟩) hk.2.2 (e▸H) (view_of (dssO_s e2▸e1) rfl) e3) fun z=>nomatch z.symm.trans ((Bool.not_eq_true' _).mp hk.1)
 |none=>
   refine goIt_i S G fun src a₁ hs₁ I=>?_
   cases hs₁ with
  |nil=>exact False.elim
  |cons k hs₁=>cases k with
   |comp k zs o a'=>
     refine ifK_i fun hn z=>?_
     have C:CoR g (m+1) sc csc vs elt tgt iter ifs a zs a':=⟨hc.1,src,a₁,k,I,(Bool.not_eq_true' _).mp hn,z.2.1,z.1⟩
     exact h _ _ _ (.comp C z.2.2.1) (fun _ hk=>.asgC hk C z.2.2.1) z.2.2.2
   |_=>exact False.elim
 ·exact False.elim
theorem goDict_i {ks:List (Option Expr)} (G:Gl g T) (h:∀ v a' hs',EvR g n sc vs (.Dict ks es pos) a v a'→K v a' hs'→P):goDict T sc ks es a hs K→P:=by
 unfold goDict
 cases asKey ks with
|some k=>
  obtain ⟨k,c,p,rfl⟩:=k
  refine optK_i fun e _=>?_
  obtain ⟨e,rfl⟩:=e
  exact ifK_i fun e1=>optK_i fun s e2=>h _ _ _ (.dss1 G e1 (simpS_s G e2))
|none=>
  refine ifK_i fun z=>?_
  have z:=(Bool.and_eq_true _ _).mp z
  obtain rfl:=List.isEmpty_iff.mp z.1
  obtain rfl:=List.isEmpty_iff.mp z.2
  exact kind_i fun k hs'=>orK_i (fun _=>h _ _ _ (.dss0 G)) fun _=>ifK_i fun _=>h _ _ _ (.dictI0 G)
theorem goTs_i (S:Snd g m sc d r) {op:BoolOp}:∀ {a:Hp} {hs:Hs} {K:KT},(∀ b a' hs',TsR g (m+1) op sc vs es a b a'→K b a' hs'→P)→goTs r vs op es a hs K→P:=by
 induction es with
|nil=>intro a hs K h;cases op<;>exact h _ _ _ (by first|exact .and0|exact .or0)
|cons e es ih=>
  intro a hs K h
  refine S.t fun b a₁ hs₁ H=>?_
  cases op<;>cases b
  ·exact h _ _ _ (.andF H)
  ·exact ih fun b a₂ hs₂ H'=>h _ _ _ (.andT H H')
  ·exact ih fun b a₂ hs₂ H'=>h _ _ _ (.orF H H')
  ·exact h _ _ _ (.orT H)
theorem orExp_i {L:Prop} (h:∀ v a' hs',EvR g (m+1) sc vs e a v a'→K v a' hs'→P) (hL:L→P):orExp g m sc vs e a hs K L→P:=by
 cases hs with
|nil=>exact hL
|cons k hs=>cases k with
 |exp v a'=>exact fun z=>h _ _ _ z.1 z.2
 |_=>exact hL
theorem stepE_i (S:Snd g m sc d r) (G:Gl g T) (h:∀ v a' hs',EvR g (m+1) sc vs e a v a'→K v a' hs'→P):stepE g T m sc r vs e a hs K→P:=by
 have dflt:orExp g m sc vs e a hs K False→P:=orExp_i h False.elim
 cases e with
|Name=>exact optK_i fun v e=>h _ _ _ (nameV_s G e)
|Constant=>exact optK_i fun v e=>h _ _ _ (constAV_s e)
|List=>exact goEs_i S fun xs a₁ hs₁ H=>kind_i fun k hs₂=>optK_i fun o e=>ifK_i fun e1=>h _ _ _ (.list H (mkO_s e) (Nat.le_of_ble_eq_true e1))
|Tuple=>exact goEs_i S fun xs a₁ hs₁ H=>ifK_i fun e1=>h _ _ _ (.tuple H (Nat.le_of_ble_eq_true e1))
|Dict=>exact goDict_i G h
|BinOp=>exact S.e fun x a₁ hs₁ H=>S.e fun y a₂ hs₂ H' z=>by obtain ⟨v,a',hs',B,z⟩:=goBin_s z;exact h _ _ _ (.bin H H' B) z
|UnaryOp op=>cases op with
 |Not=>exact S.e fun x a₁ hs₁ H=>optK_i fun b e=>h _ _ _ (.not H (tru_s e))
 |USub=>
   refine S.e fun x a₁ hs₁ H=>?_
   cases x with
  |int=>exact h _ _ _ (.neg H)
  |_=>exact False.elim
 |_=>exact False.elim
|BoolOp op es=>
  refine orExp_i h ?_
  rcases es with _|⟨e,_|⟨f,es⟩⟩
  ·exact False.elim
  ·exact S.e fun x a₁ hs₁ H=>h _ _ _ (.one H)
  ·refine S.e fun x a₁ hs₁ H=>optK_i fun b e=>dec_i fun hs₂=>?_
   cases op<;>cases b
   ·exact h _ _ _ (.and1 H (tru_s e))
   ·exact S.e fun y a₂ hs₃ H'=>h _ _ _ (.and2 H (tru_s e) H')
   ·exact S.e fun y a₂ hs₃ H'=>h _ _ _ (.or2 H (tru_s e) H')
   ·exact h _ _ _ (.or1 H (tru_s e))
|Compare l ops rs=>
  rcases ops with _|⟨op,_|⟨op',_|_⟩⟩
  ·exact False.elim
  ·rcases rs with _|⟨e,_|_⟩
   ·exact False.elim
   ·exact ifK_i fun hn=>S.e fun x a₁ hs₁ H=>S.e fun y a₂ hs₂ H' z=>by obtain ⟨b,hs',B,z⟩:=goCmp_s z;exact h _ _ _ (.cmp hn H H' B) z
   ·exact False.elim
  ·rcases rs with _|⟨e,_|⟨f,_|_⟩⟩
   ·exact False.elim
   ·exact False.elim
   ·refine ifK_i fun hn=>S.e fun x a₁ hs₁ H=>S.e fun y a₂ hs₂ H' z=>?_
    obtain ⟨b,hs',B,z⟩:=goCmp_s z
    revert z
    refine dec_i fun hs₃=>ifK_i fun eb=>S.e fun w a₃ hs₄ H'' z=>?_
    obtain ⟨b',hs',B',z⟩:=goCmp_s z
    exact h _ _ _ (.cmp2 hn H H' (eb▸B) H'' B') z
   ·exact False.elim
  ·exact False.elim
|IfExp=>exact S.t fun b a₁ hs₁ H=>S.e fun x a₂ hs₂ H'=>h _ _ _ (.ife H H')
|Call f es kws=>
  cases kws with
 |nil=>exact goCallE_i S G h
 |cons=>exact False.elim
|Attribute=>exact ifK_i fun hb=>S.e fun x a₁ hs₁ H z=>by obtain ⟨v,hs',B,z⟩:=goGet_s G z;exact h _ _ _ (.attr (fun _ _=>attrBase hb) H B) z
|Subscript=>exact goSub_i S h
|ListComp=>exact goComp_i S G fun v a' hs' H _=>h v a' hs' H
|_=>exact dflt
theorem stTst_i {K:KT} (S:Snd g m sc d r) (h:∀ b a' hs',TvR g (m+1) sc vs e a b a'→K b a' hs'→P):stTst g r vs e a hs K→P:=by
 have dflt:ifK (valTest e) (r.e vs e a hs fun x a hs=>optK (tru x) fun b=>dec b hs fun b hs=>K b a hs)→P:=ifK_i fun hv=>S.e fun x a₁ hs₁ H=>optK_i fun b e1=>dec_i fun hs₂=>h _ _ _ (.val hv H (tru_s e1))
 cases e with
|UnaryOp op=>cases op with
 |Not=>exact S.t fun b a₁ hs₁ H=>h _ _ _ (.not H)
 |_=>exact False.elim
|BoolOp=>exact goTs_i S fun b a₁ hs₁ H=>h _ _ _ (.ops H)
|Compare l ops rs=>
  rcases ops with _|⟨op,_|⟨op',_|_⟩⟩
  ·exact False.elim
  ·rcases rs with _|⟨e,_|_⟩
   ·exact False.elim
   ·refine ifK_i fun hn=>S.e fun x a₁ hs₁ H=>S.e fun y a₂ hs₂ H' z=>?_
    obtain ⟨b,hs',B,z⟩:=goCmp_s z
    revert z
    exact dec_i fun hs₃=>h _ _ _ (.cmp hn H H' B)
   ·exact False.elim
  ·rcases rs with _|⟨e,_|⟨f,_|_⟩⟩
   ·exact False.elim
   ·exact False.elim
   ·refine ifK_i fun hn=>S.e fun x a₁ hs₁ H=>S.e fun y a₂ hs₂ H' z=>?_
    obtain ⟨b,hs',B,z⟩:=goCmp_s z
    revert z
    refine dec_i fun hs₃=>ifK_i fun eb=>S.e fun w a₃ hs₄ H'' z=>?_
    obtain ⟨b',hs',B',z⟩:=goCmp_s z
    revert z
    exact dec_i fun hs₃=>h _ _ _ (.cmp2 hn H H' (eb▸B) H'' B')
   ·exact False.elim
  ·exact False.elim
|_=>exact dflt
end
section
variable {g:Cx} {T:Tabs} {a a' a₁ a₂:Hp} {n m i d:Nat} {v x y z w:AV} {xs ys pre args:List AV} {o o':AObj} {hs:Hs} {name:Str} {C:Cfg} {K:Vars→Hp→Hs→Prop} {sc:Scope} {vs vs':Vars} {p pos:Pos} {es ts:List Expr} {id:String} {r:Rec} {P:Prop} {e f l s t:Expr} {D:Nat→Prop} {st:Stmt} {ss:List Stmt}
theorem stN_s {x:Str} (h:stN sc x=true):StN sc x:=by
 unfold stN at h
 split at h
 ·rename_i e;exact .inl e
 ·rename_i e;exact .inr e
 ·cases h
theorem goAs1_i (S:Snd g m sc d r) (G:Gl g T) (h:∀ vs' a' hs',AsR g (m+1) sc t v vs a vs' a'→K vs' a' hs'→P):goAs1 T sc r t v vs a hs K→P:=by
 cases t with
|Name=>exact ifK_i fun e=>h _ _ _ (.name (stN_s e))
|Attribute=>exact S.e fun x a₁ hs₁ H z=>by obtain ⟨n,p,a',hs',e,B,z⟩:=goPut_s G z;exact h _ _ _ (.attr (e▸H) B) z
|Subscript=>exact S.e fun x a₁ hs₁ H=>S.e fun y a₂ hs₂ H' z=>by obtain ⟨a',hs',B,z⟩:=goSet_s z;exact h _ _ _ (.sub H H' B) z
|_=>exact False.elim
theorem goAsL_i (S:Snd g m sc d r) (G:Gl g T):∀ {xs:List AV} {vs:Vars} {a:Hp} {hs:Hs},(∀ vs' a' hs',AssR g (m+1) sc ts xs vs a vs' a'→K vs' a' hs'→P)→goAsL T sc r ts xs vs a hs K→P:=by
 induction ts with
|nil=>intro xs vs a hs h;cases xs;exact h _ _ _ .nil;exact False.elim
|cons t ts ih=>intro xs vs a hs h;cases xs;exact False.elim;exact ifK_i fun hn=>goAs1_i S G fun vs₁ a₁ hs₁ H=>ih fun vs₂ a₂ hs₂ H'=>h _ _ _ (.cons hn H H')
theorem goAs_i (S:Snd g m sc d r) (G:Gl g T) (h:∀ vs' a' hs',AsR g (m+1) sc t v vs a vs' a'→K vs' a' hs'→P):goAs T sc r t v vs a hs K→P:=by
 unfold goAs
 cases asTup t with
|none=>exact goAs1_i S G h
|some ts=>
  obtain ⟨ts,c,p,rfl⟩:=ts
  exact optK_i fun xs e=>goAsL_i S G fun vs' a' hs' H=>h _ _ _ (.tup e H)
theorem swaps_of {env:Env} {k:Nat} (h:(noComp e||((asSub t).isSome&&(asComp e).isSome))=true):swapsWith e (some t) k env=pure false:=by
 rcases (Bool.or_eq_true _ _).mp h with h|h
 ·exact noComp_of h
 ·have h:=(Bool.and_eq_true _ _).mp h
  obtain ⟨⟨_,_,rfl⟩,_⟩:=Option.isSome_iff_exists.mp h.1
  obtain ⟨⟨_,_,rfl⟩,_⟩:=Option.isSome_iff_exists.mp h.2
  rfl
theorem compName_s {q:Str×Expr×List Comprehension×Scope} (h:compName t e=some q):∃ p p',t=.Name q.1 p∧e=.ListComp q.2.1 q.2.2.1 q.2.2.2 p':=by
 obtain ⟨⟨x,p1,e1⟩,-,h⟩:=Option.bind_eq_some_iff.mp h
 obtain ⟨⟨y,p2,e2⟩,-,rfl⟩:=Option.map_eq_some_iff.mp h
 exact ⟨p1,p2,e1,e2⟩
theorem SR.asg2P {q:Str×Str} (hp:TwoP t e q) (h1:StN sc q.1) (h2:StN sc q.2) (H:EvR g n sc vs e a (.tup [x,y]) a'):SR g n D sc vs (.Assign [t] e pos) a .next (setL q.2 y (setL q.1 x vs)) a':=by
 obtain ⟨p1,p2,c,p,es,c',p',rfl,rfl,z1,z2⟩:=hp
 exact .asg2 z2 z1 h1 h2 H
theorem goAssign_i (S:Snd g m sc d r) (G:Gl g T) (h:∀ vs' a' hs',SR g (m+1) D sc vs (.Assign [t] e pos) a .next vs' a'→K vs' a' hs'→P):goAssign g T m sc r t e vs a hs K→P:=by
 unfold goAssign
 cases q:twoNames t e with
|none=>
  dsimp only
  cases q1:compName t e with
 |none=>exact ifK_i fun hc=>S.e fun v a₁ hs₁ H=>goAs_i S G fun vs' a' hs' B=>h _ _ _ (.asg (fun _=>swaps_of ((Bool.and_eq_true _ _).mp hc).1) ((Bool.and_eq_true _ _).mp hc).2 H B)
 |some q'=>
   obtain ⟨p,p',rfl,rfl⟩:=compName_s q1
   exact ifK_i fun hk=>goComp_i (pos:=p') S G fun v a' hs' _ H=>h _ _ _ (H rfl (stN_s hk))
|some q'=>
  exact ifK_i fun hk=>S.e fun v a₁ hs₁ H=>optK_i fun w _=>h _ _ _ (.asg2P q'.2 (stN_s ((Bool.and_eq_true _ _).mp hk).1) (stN_s ((Bool.and_eq_true _ _).mp hk).2) (w.2▸H))
theorem SR.weak {D':Nat→Prop} {f:Fl} (hd:∀ i,D i→D' i) (H:SR g n D' sc vs st a f vs' a'):SR g n D sc vs st a f vs' a':=fun A env σ hR hE O V Q E h=>H A env σ hR hE O V Q E fun f' σ' F x O' V'=>h f' σ' F ⟨{ x.ext with rho:=fun n p d=>x.ext.rho n p (hd n d) },x.same⟩ O' V'
theorem stepS1_i {K:KS} (S:Snd g m sc d r) (G:Gl g T) (h:∀ f vs' a' hs',SR g (m+1) (fun i=>i<d) sc vs st a f vs' a'→K f vs' a' hs'→P):stepS1 g T m sc d r vs st a hs K→P:=by
 cases st with
|Expr=>exact ifK_i fun hc=>S.e fun v a₁ hs₁ H=>h _ _ _ _ (.expr hc H)
|Return e=>cases e with
 |none=>exact h _ _ _ _ .ret0
 |some e=>exact S.e fun v a₁ hs₁ H=>h _ _ _ _ (.ret H)
|Assign ts e=>
  rcases ts with _|⟨t,_|_⟩
  ·exact False.elim
  ·exact goAssign_i S G fun vs' a' hs' H=>h _ _ _ _ H
  ·exact False.elim
|If=>exact S.t fun b a₁ hs₁ H=>S.s fun f vs' a' hs' H'=>h _ _ _ _ (.if H H')
|For t it b o=>
  cases o with
 |cons=>exact False.elim
 |nil=>
   refine goIt_i S G fun src a₁ hs₁ I=>?_
   cases hs₁ with
  |nil=>exact False.elim
  |cons k hs₁=>cases k with
   |loop f vs' a'=>
     refine ifK_i fun hn z=>?_
     obtain ⟨⟨k,L⟩,hs,z⟩:=z
     rw [Bool.and_eq_true] at hn
     exact h _ _ _ _ (.weak (fun i hi=>Nat.lt_of_lt_of_le hi (Nat.le_of_ble_eq_true hn.2)) (.for I hs (fun ht=>by have hn:=hn.1;rw [ht] at hn;exact hn) L)) z
   |_=>exact False.elim
|While t b o=>
  cases o with
 |cons=>exact False.elim
 |nil=>cases hs with
  |nil=>exact False.elim
  |cons k hs=>cases k with
   |loop f vs' a'=>exact ifK_i fun hn z=>by obtain ⟨⟨k,L⟩,z⟩:=z;exact h _ _ _ _ (.weak (fun i hi=>Nat.lt_of_lt_of_le hi (Nat.le_of_ble_eq_true hn)) (.while L)) z
   |_=>exact False.elim
|_=>exact False.elim
theorem stay_s {κ:List Nat} (h:stay d κ=true):∀ i,i<d→κ[i]?=some i:=fun i hi=>by
 have z:=List.all_eq_true.mp h i (List.mem_range.mpr hi)
 split at z
 ·rename_i j e;rw [e,← Nat.eq_of_beq_eq_true z]
 ·cases z
theorem goS_i {K:KS} (S:Snd g m sc d r) (G:Gl g T) (h:∀ f vs' a' hs',SR g (m+1) (fun i=>i<d) sc vs st a f vs' a'→K f vs' a' hs'→P):goS g T m sc d r vs st a hs K→P:=by
 cases hs with
|nil=>exact stepS1_i S G h
|cons k hs=>cases k with
 |stm=>exact fun z=>h _ _ _ _ z.1 z.2
 |_=>exact stepS1_i S G h
theorem gc1K_i (h:∀ vs₁ a₁ hs₁,(∀ f vs' a',SsR g n (fun i=>i<d) sc vs₁ ss a₁ f vs' a'→SsR g n (fun i=>i<d) sc vs ss a f vs' a')→K vs₁ a₁ hs₁→P):gc1K d vs a hs K→P:=by
 cases hs with
|nil=>exact h _ _ _ fun _ _ _ H=>H
|cons k hs=>cases k with
 |gc κ xs=>exact ifK_i fun hc=>optK_i fun a₁ e1=>optK_i fun vs₁ e2=>h _ _ _ fun _ _ _=>.gc ((Bool.and_eq_true _ _).mp hc).1 e1 e2 (stay_s ((Bool.and_eq_true _ _).mp hc).2)
 |_=>exact h _ _ _ fun _ _ _ H=>H
theorem fzAt_s {l:List Str} (e:fzAt n a=some l):a[n]?=some (.txs l):=by
 obtain ⟨o,e1,e2⟩:=Option.bind_eq_some_iff.mp e
 cases o<;>first|(cases e2;done)|exact e1.trans (congrArg (fun l=>some (AObj.txs l)) (Option.some.inj e2))
theorem gcK_i (h:∀ vs₁ a₁ hs₁,(∀ f vs' a',SsR g n (fun i=>i<d) sc vs₁ ss a₁ f vs' a'→SsR g n (fun i=>i<d) sc vs ss a f vs' a')→K vs₁ a₁ hs₁→P):gcK d vs a hs K→P:=by
 have dflt:gc1K d vs a hs K→P:=gc1K_i h
 cases hs with
|nil=>exact dflt
|cons k hs=>cases k with
 |fz n=>exact optK_i fun l e=>gc1K_i fun vs₁ a₁ hs₁ z=>h _ _ _ fun f vs' a' H=>.fz (fzAt_s e) (z _ _ _ H)
 |_=>exact dflt
theorem goSs_i {K:KS} (S:Snd g m sc d r) (G:Gl g T):∀ {vs:Vars} {a:Hp} {hs:Hs},(∀ f vs' a' hs',SsR g (m+1) (fun i=>i<d) sc vs ss a f vs' a'→K f vs' a' hs'→P)→goSs g T m sc d r vs ss a hs K→P:=by
 induction ss with
|nil=>exact fun h=>gcK_i fun vs₁ a₁ hs₁ z=>h _ _ _ _ (z _ _ _ .nil)
|cons st ss ih=>
  refine fun h=>gcK_i (g:=g) (n:=m+1) (sc:=sc) (ss:=st::ss) fun vs₁ a₁ hs₁ z=>goS_i S G fun f vs₂ a₂ hs₂ H=>?_
  cases f with
 |next=>exact ih fun f vs₂ a₂ hs₂ H'=>h _ _ _ _ (z _ _ _ (.cons H H'))
 |ret v=>exact h _ _ _ _ (z _ _ _ (.ret H))
theorem go_snd (G:Gl g T) (k:Nat):Snd g m sc d (go g T m sc d k):=by
 induction k with
|zero=>exact ⟨fun _=>False.elim,fun _=>False.elim,fun _=>False.elim⟩
|succ k ih=>exact ⟨fun h=>stepE_i ih G h,fun h=>stTst_i ih h,fun h=>goSs_i ih G h⟩
theorem SsR.go {f:Fl} (G:Gl g T) (k:Nat) (hs:Hs) (h:(Mine.go g T m sc d k).s vs ss a hs fun f' vs'' a'' _=>f'=f∧vs''=vs'∧a''=a'):SsR g (m+1) (fun i=>i<d) sc vs ss a f vs' a':=
 (go_snd G k).s (fun f' vs'' a'' hs' H z=>by obtain ⟨rfl,rfl,rfl⟩:=z;exact H) h
theorem TvR.go {b:Bool} (G:Gl g T) (k:Nat) (hs:Hs) (h:(Mine.go g T m sc d k).t vs e a hs fun b' a'' _=>b'=b∧a''=a'):TvR g (m+1) sc vs e a b a':=
 (go_snd (d:=d) G k).t (fun b' a'' hs' H z=>by obtain ⟨rfl,rfl⟩:=z;exact H) h
theorem EvR.go (G:Gl g T) (k:Nat) (hs:Hs) (h:(Mine.go g T m sc d k).e vs e a hs fun v' a'' _=>v'=v∧a''=a'):EvR g (m+1) sc vs e a v a':=
 (go_snd (d:=d) G k).e (fun v' a'' hs' H z=>by obtain ⟨rfl,rfl⟩:=z;exact H) h
end
section
noncomputable def memS (x:Str) (l:List Str):Bool:=l.any fun y=>strB x y
noncomputable def TT:Tabs where
 glob:=fun x=>look x globTab
 fn:=fnAt
 field:=fun C x=>match lookN C fieldTab with|some l=>memS x l|none=>false
 meth:=fun C x=>(lookN C methTab).bind (look x)
 init:=fun C=>lookN C initTab
noncomputable def noS:Stmt:=.Pass ⟨0,0,0,0⟩
noncomputable def noE:Expr:=.Name ⟨#[]⟩ ⟨0,0,0,0⟩
noncomputable def scF (f:Addr):Scope:=((fnAt f).map (·.scope)).getD ⟨.module,[],false,false,[]⟩
noncomputable def blk:Stmt→List Stmt
|.For _ _ b _ _=>b
|.While _ b _ _=>b
|.If _ b _ _=>b
|_=>[]
noncomputable def ssIn (ss:List Stmt) (p:List Nat):List Stmt:=p.foldl (fun ss i=>blk (ss.getD i noS)) ss
noncomputable def ssF (f:Addr) (p:List Nat):List Stmt:=ssIn (((fnAt f).map (·.body)).getD []) p
noncomputable def stF (f:Addr) (p:List Nat) (i:Nat):Stmt:=(ssF f p).getD i noS
noncomputable def forT:Stmt→Expr
|.For t _ _ _ _=>t
|_=>noE
noncomputable def exS:Stmt→Expr
|.Assign _ e _=>e
|.Return e _=>e.getD noE
|.Expr e _=>e
|.If e _ _ _=>e
|.While e _ _ _=>e
|.For _ e _ _ _=>e
|_=>noE
noncomputable def kid (e:Expr) (i:Nat):Expr:=match e with
|.Call _ es _ _=>es.getD i noE
|.Compare l _ rs _=>(l::rs).getD i noE
|.BinOp l _ r _=>[l,r].getD i noE
|.Tuple es _ _=>es.getD i noE
|.List es _=>es.getD i noE
|_=>noE
noncomputable def exF (f:Addr) (p:List Nat) (i:Nat) (q:List Nat):Expr:=q.foldl kid (exS (stF f p i))
noncomputable def cElt:Expr→Expr
|.ListComp e _ _ _=>e
|_=>noE
noncomputable def cGen:Expr→Comprehension
|.ListComp _ gs _ _=>gs.getD 0 ⟨noE,noE,[],0⟩
|_=>⟨noE,noE,[],0⟩
noncomputable def cSc:Expr→Scope
|.ListComp _ _ s _=>s
|_=>⟨.module,[],false,false,[]⟩
def endK (d:Nat) (hs:Hs) (v:AV) (a:Hp) (K:AV→Hp→Prop):Prop:=match hs with
|.gc κ _::_=>ifK (nodupB κ&&stay d κ) (optK (gcH κ a) fun a=>optK (mapV (fun n=>pos n κ) v) fun v=>K v a)
|_=>K v a
def fnGo (g:Cx) (T:Tabs) (m k:Nat) (f:Addr) (args:List AV) (a:Hp) (hs:Hs) (K:AV→Hp→Prop):Prop:=optK (T.fn f) fun d=>optK (bindP d args) fun vs=>(go g T m d.scope a.length k).s vs d.body a hs fun f _ a' hs=>endK a.length hs (retV f) a' K
end
theorem CR.go {g:Cx} {T:Tabs} {m:Nat} {f:Addr} {args:List AV} {a a':Hp} {v:AV} (G:Gl g T) (k:Nat) (hs:Hs):fnGo g T m k f args a hs (fun v' a''=>v'=v∧a''=a')→CR g (m+2) f args a v a':=by
 refine optK_i fun d hd=>optK_i fun vs e1=>(go_snd G k).s fun fl vs' a₁ hs₁ H=>?_
 have dflt:(retV fl=v∧a₁=a')→CR g (m+2) f args a v a':=fun z=>z.1▸z.2▸.fn G hd e1 H
 cases hs₁ with
|nil=>exact dflt
|cons h r=>cases h with
 |gc κ xs=>
   refine ifK_i fun hc=>optK_i fun a₂ e2=>optK_i fun v' e3 z=>?_
   obtain ⟨rfl,rfl⟩:=z
   rw [Bool.and_eq_true] at hc
   cases fl with
  |next=>rw [← Option.some.inj e3];exact .fn G hd e1 (fl:=.next) (vs':=[]) (H.gcEnd (xs:=[]) hc.1 e2 rfl trivial (stay_s hc.2))
  |ret w=>exact .fn G hd e1 (fl:=.ret v') (vs':=[]) (H.gcEnd (xs:=[]) hc.1 e2 rfl e3 (stay_s hc.2))
 |_=>exact dflt
inductive Alls:List Prop→Prop
|n:Alls []
|c {p:Prop} {ps:List Prop}:p→Alls ps→Alls (p::ps)
noncomputable def Obl:List Prop→Prop→Prop
|[],F=>F
|p::ps,F=>p∧Obl ps F
theorem Alls.obl {ps:List Prop} {F:Prop} (h:Alls ps) (z:F):Obl ps F:=by
 induction h with
|n=>exact z
|c p _ ih=>exact ⟨p,ih⟩
section
variable {g:Cx} {T:Tabs} {m d:Nat} {sc:Scope} {vs vs':Vars} {a a':Hp} {ps:List Prop}
theorem SsR.gz {f:Fl} {ss:List Stmt} (G:Gl g T) (hs:Hs) (h:Alls ps) (q:Obl ps (f=f∧vs'=vs'∧a'=a')=(Mine.go g T m sc d 60).s vs ss a hs fun f' vs'' a'' _=>f'=f∧vs''=vs'∧a''=a':=by kernel_rfl):SsR g (m+1) (fun i=>i<d) sc vs ss a f vs' a':=.go G 60 hs (q.mp (h.obl ⟨rfl,rfl,rfl⟩))
theorem TvR.gz {b:Bool} {e:Expr} (G:Gl g T) (hs:Hs) (h:Alls ps) (q:Obl ps (b=b∧a'=a')=(Mine.go g T m sc 0 60).t vs e a hs fun b' a'' _=>b'=b∧a''=a':=by kernel_rfl):TvR g (m+1) sc vs e a b a':=.go (d:=0) G 60 hs (q.mp (h.obl ⟨rfl,rfl⟩))
theorem EvR.gz {v:AV} {e:Expr} (G:Gl g T) (hs:Hs) (h:Alls ps) (q:Obl ps (v=v∧a'=a')=(Mine.go g T m sc 0 60).e vs e a hs fun v' a'' _=>v'=v∧a''=a':=by kernel_rfl):EvR g (m+1) sc vs e a v a':=.go (d:=0) G 60 hs (q.mp (h.obl ⟨rfl,rfl⟩))
theorem CR.gz {f:Addr} {v:AV} {args:List AV} (G:Gl g T) (hs:Hs) (h:Alls ps) (q:Obl ps (v=v∧a'=a')=fnGo g T m 60 f args a hs fun v' a''=>v'=v∧a''=a':=by kernel_rfl):CR g (m+2) f args a v a':=.go G 60 hs (q.mp (h.obl ⟨rfl,rfl⟩))
theorem SR.gz1 {f:Fl} {st:Stmt} (G:Gl g T) (hs:Hs) (h:Alls ps) (q:Obl ps (f=f∧vs'=vs'∧a'=a')=stepS1 g T m sc d (Mine.go g T m sc d 60) vs st a hs fun f' vs'' a'' _=>f'=f∧vs''=vs'∧a''=a':=by kernel_rfl):SR g (m+1) (fun i=>i<d) sc vs st a f vs' a':=stepS1_i (go_snd G 60) G (fun f' vs'' a'' hs' H z=>by obtain ⟨rfl,rfl,rfl⟩:=z;exact H) (q.mp (h.obl ⟨rfl,rfl,rfl⟩))
theorem SsR.gy {f f₁:Fl} {vs₁:Vars} {a₁:Hp} {ss:List Stmt} (G:Gl g T) (hs:Hs) (h:Alls ps) (z:f₁=f∧vs₁=vs'∧a₁=a') (q:Obl ps (f₁=f∧vs₁=vs'∧a₁=a')=(Mine.go g T m sc d 60).s vs ss a hs fun f' vs'' a'' _=>f'=f∧vs''=vs'∧a''=a':=by kernel_rfl):SsR g (m+1) (fun i=>i<d) sc vs ss a f vs' a':=.go G 60 hs (q.mp (h.obl z))
theorem CR.gy {f:Addr} {v v₁:AV} {a₁:Hp} {args:List AV} (G:Gl g T) (hs:Hs) (h:Alls ps) (z:v₁=v∧a₁=a') (q:Obl ps (v₁=v∧a₁=a')=fnGo g T m 60 f args a hs fun v' a''=>v'=v∧a''=a':=by kernel_rfl):CR g (m+2) f args a v a':=.go G 60 hs (q.mp (h.obl z))
end
noncomputable abbrev Z3c (a b:Int):Hp:=[.list [.int a,.int b]]
section
variable {g:Cx} {a a':Hp} {n m:Nat} {i j:Int} {C:Cfg} {h:Heap}
theorem BinR.mulI (e:IntMulOk i j):BinR g .Mult (.int i) (.int j) a (.int (i*j)) a:=fun A σ u w O r r' Q E h=>by cases r;cases r';exact P.mul_int (h _ (σ.tok _) Nx.tok O (.int ..)) e
theorem BinR.modI (e:j≠0):BinR g .Mod (.int i) (.int j) a (.int (i.fmod j)) a:=fun A σ u w O r r' Q E h=>by cases r;cases r';exact PyProof.Rows.mod_int e (h _ (σ.tok _) Nx.tok O (.int ..))
theorem BinR.divI (e:j≠0) (hj:j.natAbs<1073741824):BinR g .FloorDiv (.int i) (.int j) a (.int (i.fdiv j)) a:=fun A σ u w O r r' Q E h=>by cases r;cases r';exact PyProof.Rows.floordiv_int e (h _ (σ.tok _) Nx.tok O (.int ..)) (.inl (PyProof.noPylong_small hj))
theorem BinR.powI (h0:0≤j) (h1:j≤1000000) (h2:i.natAbs<2 ^ 64):BinR g .Pow (.int i) (.int j) a (.int (i ^ j.toNat)) a:=fun A σ u w O r r' Q E h=>by cases r;cases r';exact PyProof.Rows.pow_int_small h0 h1 h2 (h _ (σ.tok _) Nx.tok O (.int ..))
theorem CmpR.ge:CmpR g .GtE (.int i) (.int j) a (decide (j≤i)):=fun n A σ u w _ O r r' Q E h=>by cases r;cases r';exact P.ge_int (h _ σ .refl O rfl)
theorem CmpR.leS {s q:Str} {b:Bool} (e:decide (q.cps.toList<s.cps.toList)=!b):CmpR g .LtE (.str s) (.str q) a b:=fun n A σ u w _ O r r' Q E h=>by
 cases r;cases r'
 refine P.le_str (h _ σ .refl O ?_)
 rw [e,Bool.not_not]
theorem CallR.max2:CallR g (.builtin "max") [.int i,.int j] a (.int (if j > i then j else i)) a:=by
 intro n A σ us hR O rs Q E h
 obtain ⟨u,w,rfl,r,r'⟩:=rs.two
 obtain ⟨t,rfl⟩:=r.inv_int
 obtain ⟨t',rfl⟩:=r'.inv_int
 refine max_two_ints hR.handled fun h' tk k=>?_
 have z:=fun t=>h (.int (if j > i then j else i) t) (σ.at σ.C h' tk) (Nx.push k) (O.grow k) (.int _ _)
 by_cases c:j > i
 ·rw [if_pos c] at z ⊢;exact z _
 ·rw [if_neg c] at z ⊢;exact z _
theorem CallR.ord {c:Nat}:CallR g (.builtin "ord") [.str ⟨#[c]⟩] a (.nat c) a:=by
 intro n A σ us _ O rs Q E h
 obtain ⟨u,rfl,r⟩:=rs.one
 obtain ⟨t,rfl,_⟩:=r.inv_str
 exact P.ord_of_char (h _ (σ.tok _) Nx.tok O (.int _ _))
theorem CallR.lenB {l:Addr} {us:List Value} {k:Nat} (e:g.hb.IsList l us.toArray) (hk:us.length=k) (hz:k≤cap):CallR g (.builtin "len") [.val (.ref l)] a (.nat k) a:=by
 intro n A σ ws _ O rs Q E h
 obtain ⟨u,rfl,r⟩:=rs.one
 obtain rfl:=r.inv_val
 obtain ⟨o,z1,z2⟩:=e
 refine Calls.call_len_list (items:=us.toArray) ⟨o,O.fzh _ _ (O.base _ _ z1),z2⟩ ?_ ?_
 ·rw [List.size_toArray,hk];unfold cap at hz;omega
 ·rw [show ((us.toArray.size:Nat):Int)=Int.ofNat k by rw [List.size_toArray,hk];rfl]
  exact h _ (σ.tok _) Nx.tok O (.int _ _)
theorem ItemR.base {l:Addr} {us:List Value} {t:Tok} (e:g.hb.IsList l us.toArray) (hv:us[0]?=some (.int i t)):ItemR g a (.val (.ref l)) (.nat 0) (.int i):=by
 intro A σ value slice u w hs O r r' Q E h
 obtain rfl:=r.inv_val
 obtain ⟨t',rfl⟩:=r'.inv_int
 obtain ⟨o,z1,z2,z3⟩:=e
 have L:σ.s.heap.IsList l us.toArray:=⟨o,O.fzh _ _ (O.base _ _ z1),z2,z3⟩
 exact tail_any (T:="list") ⟨o,O.fzh _ _ (O.base _ _ z1),z2⟩ slot_list_getitem.lookup (wpAny_getItem_list L (Int.le_refl _) (by decide) (by simpa using hv) (h _ σ .refl O (.int _ _))) (sub_plain (noSlice_ne hs))
theorem Ok.toList {x y:Int} (O:Ok g C h [.src x y]):Ok g C h (Z3c x y)∧SrcOk x y:=by
 obtain ⟨hd,hm,t,u,k,z1,z2⟩:=O.at_ 0 _ .root _ rfl rfl
 refine ⟨⟨O.fz,O.base,O.live,O.N,fun n o p po e1 e2=>?_,fun n o p e1 d=>?_⟩,z2⟩
 ·match n,e1 with
 |0,e1=>
   cases e1
   cases p<;>first|(cases e2;done)|skip
   cases e2
   exact ⟨hd,hm,_,_,z1,.cons (.int _ _) (.cons (.int _ _) .nil),Nat.le_of_ble_eq_true rfl⟩
 |_+1,e1=>cases e1
 ·match n,e1 with
 |0,e1=>
   cases e1
   rcases O.dv 0 _ p rfl d with z|⟨po,z⟩
   ·cases z
   ·cases p<;>first|(cases z;done)|exact .inr ⟨_,rfl⟩
 |_+1,e1=>cases e1
theorem Ok.toSrc {x y:Int} (O:Ok g C h (Z3c x y)) (S:SrcOk x y):Ok g C h [.src x y]:=by
 obtain ⟨hd,hm,vs,k,z1,z2,_⟩:=O.at_ 0 _ .root _ rfl rfl
 refine ⟨O.fz,O.base,O.live,O.N,fun n o p po e1 e2=>?_,fun n o p e1 d=>?_⟩
 ·match n,e1 with
 |0,e1=>
   cases e1
   cases p<;>first|(cases e2;done)|skip
   cases e2
   obtain ⟨u,w,rfl,r,r'⟩:=z2.two
   obtain ⟨t,rfl⟩:=r.inv_int
   obtain ⟨t',rfl⟩:=r'.inv_int
   exact ⟨hd,hm,_,_,_,z1,S⟩
 |_+1,e1=>cases e1
 ·match n,e1 with
 |0,e1=>
   cases e1
   rcases O.dv 0 _ p rfl d with z|⟨po,z⟩
   ·cases z
   ·cases p<;>first|(cases z;done)|exact .inr ⟨_,rfl⟩
 |_+1,e1=>cases e1
theorem CR.src {f:Addr} {args:List AV} {v:AV} {x y x' y':Int} (S:SrcOk x' y') (H:CR g n f args (Z3c x y) v (Z3c x' y')):CR g n f args [.src x y] v [.src x' y']:=
 fun A σ us R hR O r h=>H A σ us R hR O.toList.1 r fun u σ' X O'=>h u σ' X (O'.toSrc S)
theorem CR.srcN {f:Addr} {args:List AV} {v:AV} {x y:Int} (S:SrcOk x y) (H:CR g n f args [] v (Z3c x y)):CR g n f args [] v [.src x y]:=
 fun A σ us R hR O r h=>H A σ us R hR O r fun u σ' X O'=>h u σ' X (O'.toSrc S)
theorem CR.noSrc {f:Addr} {args:List AV} {v:AV} {x y:Int} {a':Hp} (S:¬ SrcOk x y):CR g n f args [.src x y] v a':=fun _ _ _ _ _ O _ _=>absurd O.toList.2 S
theorem vreps_from {ys:List Str}:∀ {t:Nat},ys.all okS=true→VReps C (strsAV ys) (strsFrom t ys):=by
 induction ys with
|nil=>exact fun _=>.nil
|cons s ys ih=>
  intro t e
  rw [List.all_cons,Bool.and_eq_true] at e
  exact .cons (.str _ _ e.1) (ih e.2)
theorem CallR.split {x y:Str} {ys:List Str} (h1:(decide (x.length<y.length)||decide (Builtin.Str.strKind x<Builtin.Str.strKind y))=false) (hy:(y.length==0)=false) (hf:(Builtin.Str.occurrences x y 0 x.length (x.length+1)).isEmpty=false) (hx:x.length≤sizeLine)
  (hs:Builtin.Str.partsBetween x (Builtin.Str.occurrences x y 0 x.length (x.length+1)) y.length=ys) (ho:ys.all okS=true) (hl:ys.length≤cap):CallR g (.builtin "str.split") [.str x,.str y] a (.loc a.length .root) (a++[.txs ys]):=by
 intro n A σ us _ O rs Q E h
 obtain ⟨u,w,rfl,r,r'⟩:=rs.two
 obtain ⟨t,rfl,_⟩:=r.inv_str
 obtain ⟨t',rfl,_⟩:=r'.inv_str
 subst hs
 refine call_meets F.slot_str_split (typeIs_str _ _ _) F.entry_str_split (F.args_str_split_2 _ _) (PySem.meets_str_split_sep x y t t' h1 hy hf hx (Nat.le_trans hl (by decide))) ?_
 obtain ⟨C',z1,z2,z3⟩:=O.new1 (ao:=.txs _) (none_of_size _) ⟨_,Heap.get?_push_size σ.h (o:=lstObj (strsFrom σ.s.toks (Builtin.Str.partsBetween x (Builtin.Str.occurrences x y 0 x.length (x.length+1)) y.length)) 0) rfl⟩ (push_keeps _ _) rfl (fun p po' e=>by cases p<;>first|rfl|cases e) fun C' M e=>⟨_,_,by rw [e];exact Heap.get?_push_size _ rfl,vreps_from ho,by rw [strsAV,List.length_map];exact hl⟩
 exact h _ (σ.at C' _ _) (Nx.at z2) z1 z3
end
section
variable {g:Cx} (G:Gl g TT) (n:Nat)
include G
theorem take1 {x y:Int} {k d:Nat} (hx:decide (0<x)=true) (hk:(Int.ofNat k)≠0) (hk2:(Int.ofNat k).natAbs<1073741824) (hd:x.fmod (Int.ofNat k)=Int.ofNat d):CR g (n+2) 686 [L0,.nat k] (Z3c x y) (.nat d) ([.list [.int (x.fdiv (Int.ofNat k)),.int y]]):=
 .gy G [.c,.b true,.c,.exp (.int (x.fmod (Int.ofNat k))) [.list [.int x,.int y]],.c,.exp (.int (x.fdiv (Int.ofNat k))) [.list [.int x,.int y]],.c] (.c hx (.c (.modI hk:BinR g Operator.Mod (.int x) (.nat k) [.list [.int x,.int y]] (.int (x.fmod (Int.ofNat k))) [.list [.int x,.int y]]) (.c (.divI hk hk2:BinR g Operator.FloorDiv (.int x) (.nat k) [.list [.int x,.int y]] (.int (x.fdiv (Int.ofNat k))) [.list [.int x,.int y]]) .n))) ⟨(congrArg AV.int hd:AV.int (x.fmod (Int.ofNat k))=.nat d),rfl⟩
theorem take2 {x y:Int} {k d:Nat} (hx:decide (0<x)=false) (hk:(Int.ofNat k)≠0) (hy:IntMulOk y 39373) (hz:IntMulOk ((y*39373+7).fmod 2147483647) ((y*39373+7).fmod 2147483647)) (hd:(((((y*39373+7).fmod 2147483647)*((y*39373+7).fmod 2147483647)).fmod 2147483629).fdiv 32).fmod (Int.ofNat k)=Int.ofNat d):CR g (n+2) 686 [L0,.nat k] (Z3c x y) (.nat d) ([.list [.int x,.int ((y*Int.ofNat 39373+Int.ofNat 7).fmod (Int.ofNat 2147483647))]]):=
 .gy G [.c,.b false,.c,.exp (.int (y*Int.ofNat 39373)) [.list [.int x,.int y]],.exp (.int ((y*Int.ofNat 39373+Int.ofNat 7).fmod (Int.ofNat 2147483647))) [.list [.int x,.int y]],.c,.c,.c,.exp (.int ((y*Int.ofNat 39373+Int.ofNat 7).fmod (Int.ofNat 2147483647)*(y*Int.ofNat 39373+Int.ofNat 7).fmod (Int.ofNat 2147483647))) [.list [.int x,.int ((y*Int.ofNat 39373+Int.ofNat 7).fmod (Int.ofNat 2147483647))]],.exp (.int (((y*Int.ofNat 39373+Int.ofNat 7).fmod (Int.ofNat 2147483647)*(y*Int.ofNat 39373+Int.ofNat 7).fmod (Int.ofNat 2147483647)).fmod (Int.ofNat 2147483629))) [.list [.int x,.int ((y*Int.ofNat 39373+Int.ofNat 7).fmod (Int.ofNat 2147483647))]],.exp (.int ((((y*Int.ofNat 39373+Int.ofNat 7).fmod (Int.ofNat 2147483647)*(y*Int.ofNat 39373+Int.ofNat 7).fmod (Int.ofNat 2147483647)).fmod (Int.ofNat 2147483629)).fdiv (Int.ofNat 32))) [.list [.int x,.int ((y*Int.ofNat 39373+Int.ofNat 7).fmod (Int.ofNat 2147483647))]],.exp (.int (((((y*Int.ofNat 39373+Int.ofNat 7).fmod (Int.ofNat 2147483647)*(y*Int.ofNat 39373+Int.ofNat 7).fmod (Int.ofNat 2147483647)).fmod (Int.ofNat 2147483629)).fdiv (Int.ofNat 32)).fmod (Int.ofNat k))) [.list [.int x,.int ((y*Int.ofNat 39373+Int.ofNat 7).fmod (Int.ofNat 2147483647))]]] (.c hx (.c (.mulI hy:BinR g Operator.Mult (.int y) (.nat 39373) [.list [.int x,.int y]] (.int (y*Int.ofNat 39373)) [.list [.int x,.int y]]) (.c (.modI (by decide):BinR g Operator.Mod (.int (y*Int.ofNat 39373+Int.ofNat 7)) (.nat 2147483647) [.list [.int x,.int y]] (.int ((y*Int.ofNat 39373+Int.ofNat 7).fmod (Int.ofNat 2147483647))) [.list [.int x,.int y]]) (.c (.mulI hz:BinR g Operator.Mult (.int ((y*Int.ofNat 39373+Int.ofNat 7).fmod (Int.ofNat 2147483647))) (.int ((y*Int.ofNat 39373+Int.ofNat 7).fmod (Int.ofNat 2147483647))) [.list [.int x,.int ((y*Int.ofNat 39373+Int.ofNat 7).fmod (Int.ofNat 2147483647))]] (.int ((y*Int.ofNat 39373+Int.ofNat 7).fmod (Int.ofNat 2147483647)*(y*Int.ofNat 39373+Int.ofNat 7).fmod (Int.ofNat 2147483647))) [.list [.int x,.int ((y*Int.ofNat 39373+Int.ofNat 7).fmod (Int.ofNat 2147483647))]]) (.c (.modI (by decide):BinR g Operator.Mod (.int ((y*Int.ofNat 39373+Int.ofNat 7).fmod (Int.ofNat 2147483647)*(y*Int.ofNat 39373+Int.ofNat 7).fmod (Int.ofNat 2147483647))) (.nat 2147483629) [.list [.int x,.int ((y*Int.ofNat 39373+Int.ofNat 7).fmod (Int.ofNat 2147483647))]] (.int (((y*Int.ofNat 39373+Int.ofNat 7).fmod (Int.ofNat 2147483647)*(y*Int.ofNat 39373+Int.ofNat 7).fmod (Int.ofNat 2147483647)).fmod (Int.ofNat 2147483629))) [.list [.int x,.int ((y*Int.ofNat 39373+Int.ofNat 7).fmod (Int.ofNat 2147483647))]]) (.c (.divI (by decide) (by decide):BinR g Operator.FloorDiv (.int (((y*Int.ofNat 39373+Int.ofNat 7).fmod (Int.ofNat 2147483647)*(y*Int.ofNat 39373+Int.ofNat 7).fmod (Int.ofNat 2147483647)).fmod (Int.ofNat 2147483629))) (.nat 32) [.list [.int x,.int ((y*Int.ofNat 39373+Int.ofNat 7).fmod (Int.ofNat 2147483647))]] (.int ((((y*Int.ofNat 39373+Int.ofNat 7).fmod (Int.ofNat 2147483647)*(y*Int.ofNat 39373+Int.ofNat 7).fmod (Int.ofNat 2147483647)).fmod (Int.ofNat 2147483629)).fdiv (Int.ofNat 32))) [.list [.int x,.int ((y*Int.ofNat 39373+Int.ofNat 7).fmod (Int.ofNat 2147483647))]]) (.c (.modI hk:BinR g Operator.Mod (.int ((((y*Int.ofNat 39373+Int.ofNat 7).fmod (Int.ofNat 2147483647)*(y*Int.ofNat 39373+Int.ofNat 7).fmod (Int.ofNat 2147483647)).fmod (Int.ofNat 2147483629)).fdiv (Int.ofNat 32))) (.nat k) [.list [.int x,.int ((y*Int.ofNat 39373+Int.ofNat 7).fmod (Int.ofNat 2147483647))]] (.int (((((y*Int.ofNat 39373+Int.ofNat 7).fmod (Int.ofNat 2147483647)*(y*Int.ofNat 39373+Int.ofNat 7).fmod (Int.ofNat 2147483647)).fmod (Int.ofNat 2147483629)).fdiv (Int.ofNat 32)).fmod (Int.ofNat k))) [.list [.int x,.int ((y*Int.ofNat 39373+Int.ofNat 7).fmod (Int.ofNat 2147483647))]]) .n))))))) ⟨(congrArg AV.int hd:AV.int (((((y*Int.ofNat 39373+Int.ofNat 7).fmod (Int.ofNat 2147483647)*(y*Int.ofNat 39373+Int.ofNat 7).fmod (Int.ofNat 2147483647)).fmod (Int.ofNat 2147483629)).fdiv (Int.ofNat 32)).fmod (Int.ofNat k))=.nat d),rfl⟩
end
theorem fmod_nat (z:Int) {k:Nat} (hk:0<k):∃ d,d<k∧z.fmod (Int.ofNat k)=Int.ofNat d:=by
 have h:(0:Int)<Int.ofNat k:=Int.ofNat_lt.mpr hk
 obtain ⟨d,e⟩:=Int.eq_ofNat_of_zero_le (Int.fmod_nonneg_of_pos z h)
 refine ⟨d,?_,e⟩
 have:=Int.fmod_lt_of_pos z h
 rw [e] at this
 exact Int.ofNat_lt.mp this
theorem mul_fit {a b:Int} (ha:a.natAbs<2 ^ 64) (hb:b.natAbs<2 ^ 64):IntMulOk a b:=.of_le (intBits_le_iff.mpr ha) (intBits_le_iff.mpr hb) (by decide)
section
variable {g:Cx} (G:Gl g TT)
include G
theorem take_cr (n k:Nat) (x y:Int) (h0:0<k) (h1:k<10):∃ d x' y',d<k∧CR g (n+2) 686 [L0,.nat k] [.src x y] (.nat d) [.src x' y']:=by
 by_cases S:SrcOk x y
 ·have hk:(Int.ofNat k)≠0:=fun z=>Nat.ne_of_gt h0 (Int.ofNat.inj z)
  cases hx:decide (0<x) with
 |true=>
   obtain ⟨d,hd,e⟩:=fmod_nat x h0
   exact ⟨d,_,_,hd,.src ⟨S.y0,S.y1⟩ (take1 G n hx hk (Nat.lt_trans h1 (by decide)) e)⟩
 |false=>
   have y0:=S.y0
   have y1:=S.y1
   have w0:=Int.fmod_nonneg_of_pos (y*39373+7) (b:=2147483647) (by decide)
   have w1:=Int.fmod_lt_of_pos (y*39373+7) (b:=2147483647) (by decide)
   obtain ⟨d,hd,e⟩:=fmod_nat ((((((y*39373+7).fmod 2147483647)*((y*39373+7).fmod 2147483647)).fmod 2147483629).fdiv 32)) h0
   have f:((y*39373+7).fmod 2147483647).natAbs<2 ^ 64:=by omega
   exact ⟨d,_,_,hd,.src ⟨w0,w1⟩ (take2 G n hx hk (mul_fit (by omega) (by decide)) (mul_fit f f) e)⟩
 ·exact ⟨0,0,0,h0,.noSrc S⟩
end
theorem add_zero3 (z:Int):(z+7919*Int.ofNat 0*Int.ofNat 0+31*Int.ofNat 0+17)=z+17:=by
 rw [show (7919:Int)*Int.ofNat 0*Int.ofNat 0=0 from rfl,show (31:Int)*Int.ofNat 0=0 from rfl,Int.add_zero,Int.add_zero]
section
variable {g:Cx} (G:Gl g TT) (n:Nat)
include G
theorem pool1 {l:Addr} {us:List Value} {q:Nat} {c B M:Int} {t:Tok} {bb:Bool} (e:g.hb.IsList l us.toArray) (hl:us.length=q+1) (hz:q+1≤cap) (hv:us[0]?=some (.int c t)) (hB:(if -1 - c > c then -1 - c else c)=B) (hM:((B.fmod 2147483629+7919*Int.ofNat 0*Int.ofNat 0+31*Int.ofNat 0+17)*48271).fmod 2147483647=M) (hb:decide ((10:Int) ^ (18:Int).toNat≤B)=bb) (hm:IntMulOk (B.fmod 2147483629+7919*Int.ofNat 0*Int.ofNat 0+31*Int.ofNat 0+17) 48271) (hn:IntMulOk B (Int.ofNat bb.toNat)):CR g (n+2) 679 [.val (.ref l),.nat 0] [] L0 ([.list [.int (B*Int.ofNat bb.toNat),.int M]]):=
 .gz G [.exp (.nat (q+1)) [],.b true,.v (.int c),.exp (.int B) [],.exp (.int (B.fmod (Int.ofNat 2147483629))) [],.exp (.nat 0) [],.exp (.nat 0) [],.exp (.nat 0) [],.exp (.int ((B.fmod (Int.ofNat 2147483629)+Int.ofNat 0+Int.ofNat 0+Int.ofNat 17)*Int.ofNat 48271)) [],.exp (.int M) [],.exp (.nat 1000000000000000000) [],.b bb,.exp (.int (B*Int.ofNat bb.toNat)) [],.k 0] (.c (.lenB e hl hz:CallR g (Value.builtin "len") [.val (Value.ref l)] [] (.nat (q+1)) []) (.c (decide_eq_true (Int.ofNat_lt.mpr (Nat.succ_pos q))) (.c (.base e hv:ItemR g [] (.val (Value.ref l)) (.nat 0) (.int c)) (.c (hB▸.max2:CallR g (Value.builtin "max") [.int c,.int (Int.negSucc 0 - c)] [] (.int B) []) (.c (.modI (by decide):BinR g Operator.Mod (.int B) (.nat 2147483629) [] (.int (B.fmod (Int.ofNat 2147483629))) []) (.c (.mulI (mul_fit (by decide) (by decide)):BinR g Operator.Mult (.nat 7919) (.nat 0) [] (.nat 0) []) (.c (.mulI (mul_fit (by decide) (by decide)):BinR g Operator.Mult (.nat 0) (.nat 0) [] (.nat 0) []) (.c (.mulI (mul_fit (by decide) (by decide)):BinR g Operator.Mult (.nat 31) (.nat 0) [] (.nat 0) []) (.c (.mulI hm:BinR g Operator.Mult (.int (B.fmod (Int.ofNat 2147483629)+Int.ofNat 0+Int.ofNat 0+Int.ofNat 17)) (.nat 48271) [] (.int ((B.fmod (Int.ofNat 2147483629)+Int.ofNat 0+Int.ofNat 0+Int.ofNat 17)*Int.ofNat 48271)) []) (.c (hM▸.modI (by decide):BinR g Operator.Mod (.int ((B.fmod (Int.ofNat 2147483629)+Int.ofNat 0+Int.ofNat 0+Int.ofNat 17)*Int.ofNat 48271)) (.nat 2147483647) [] (.int M) []) (.c (.powI (by decide) (by decide) (by decide):BinR g Operator.Pow (.nat 10) (.nat 18) [] (.nat 1000000000000000000) []) (.c (hb▸.ge:CmpR g CmpOp.GtE (.int B) (.nat 1000000000000000000) [] bb) (.c (.mulI hn:BinR g Operator.Mult (.int B) (.int (Int.ofNat bb.toNat)) [] (.int (B*Int.ofNat bb.toNat)) []) .n)))))))))))))
theorem pool0 {l:Addr} {us:List Value} {B M:Int} {bb:Bool} (e:g.hb.IsList l us.toArray) (hl:us.length=0) (hB:(if -1 - (0:Int) > (0:Int) then -1 - (0:Int) else (0:Int))=B) (hM:((B.fmod 2147483629+7919*Int.ofNat 0*Int.ofNat 0+31*Int.ofNat 0+17)*48271).fmod 2147483647=M) (hb:decide ((10:Int) ^ (18:Int).toNat≤B)=bb) (hm:IntMulOk (B.fmod 2147483629+7919*Int.ofNat 0*Int.ofNat 0+31*Int.ofNat 0+17) 48271) (hn:IntMulOk B (Int.ofNat bb.toNat)):CR g (n+2) 679 [.val (.ref l),.nat 0] [] L0 ([.list [.int (B*Int.ofNat bb.toNat),.int M]]):=
 .gz G [.exp (.nat 0) [],.c,.exp (.int B) [],.exp (.int (B.fmod (Int.ofNat 2147483629))) [],.exp (.nat 0) [],.exp (.nat 0) [],.exp (.nat 0) [],.exp (.int ((B.fmod (Int.ofNat 2147483629)+Int.ofNat 0+Int.ofNat 0+Int.ofNat 17)*Int.ofNat 48271)) [],.exp (.int M) [],.exp (.nat 1000000000000000000) [],.b bb,.exp (.int (B*Int.ofNat bb.toNat)) [],.k 0] (.c (.lenB e hl (Nat.zero_le _):CallR g (Value.builtin "len") [.val (Value.ref l)] [] (.nat 0) []) (.c (hB▸.max2:CallR g (Value.builtin "max") [.nat 0,.int (Int.negSucc 0)] [] (.int B) []) (.c (.modI (by decide):BinR g Operator.Mod (.int B) (.nat 2147483629) [] (.int (B.fmod (Int.ofNat 2147483629))) []) (.c (.mulI (mul_fit (by decide) (by decide)):BinR g Operator.Mult (.nat 7919) (.nat 0) [] (.nat 0) []) (.c (.mulI (mul_fit (by decide) (by decide)):BinR g Operator.Mult (.nat 0) (.nat 0) [] (.nat 0) []) (.c (.mulI (mul_fit (by decide) (by decide)):BinR g Operator.Mult (.nat 31) (.nat 0) [] (.nat 0) []) (.c (.mulI hm:BinR g Operator.Mult (.int (B.fmod (Int.ofNat 2147483629)+Int.ofNat 0+Int.ofNat 0+Int.ofNat 17)) (.nat 48271) [] (.int ((B.fmod (Int.ofNat 2147483629)+Int.ofNat 0+Int.ofNat 0+Int.ofNat 17)*Int.ofNat 48271)) []) (.c (hM▸.modI (by decide):BinR g Operator.Mod (.int ((B.fmod (Int.ofNat 2147483629)+Int.ofNat 0+Int.ofNat 0+Int.ofNat 17)*Int.ofNat 48271)) (.nat 2147483647) [] (.int M) []) (.c (.powI (by decide) (by decide) (by decide):BinR g Operator.Pow (.nat 10) (.nat 18) [] (.nat 1000000000000000000) []) (.c (hb▸.ge:CmpR g CmpOp.GtE (.int B) (.nat 1000000000000000000) [] bb) (.c (.mulI hn:BinR g Operator.Mult (.int B) (.int (Int.ofNat bb.toNat)) [] (.int (B*Int.ofNat bb.toNat)) []) .n)))))))))))
omit G in
theorem big_bits {c:Int} (h:PySem.Builtin.Int.intBits c≤2 ^ 20):PySem.Builtin.Int.intBits (if -1 - c > c then -1 - c else c)≤2 ^ 20+1:=Nat.le_trans (bits_ite (bits_sub (m:=1) (by decide) h) h) (by decide)
omit G in
theorem mix_fit (B:Int):IntMulOk (B.fmod 2147483629+7919*Int.ofNat 0*Int.ofNat 0+31*Int.ofNat 0+17) 48271:=by
 rw [add_zero3]
 have w0:=Int.fmod_nonneg_of_pos B (b:=2147483629) (by decide)
 have w1:=Int.fmod_lt_of_pos B (b:=2147483629) (by decide)
 exact mul_fit (by omega) (by decide)
theorem pool_cr {l:Addr} {us:List Value} {ns:List Int} (e:g.hb.IsList l us.toArray) (hi:IntsAre us ns) (hz:ns.length≤1000) (hB:∀ c∈ns,PySem.Builtin.Int.intBits c≤2 ^ 20):∃ x y,CR g (n+2) 679 [.val (.ref l),.nat 0] [] L0 [.src x y]:=by
 have src {B:Int}:SrcOk (B*Int.ofNat (decide ((10:Int) ^ (18:Int).toNat≤B)).toNat) (((B.fmod 2147483629+7919*Int.ofNat 0*Int.ofNat 0+31*Int.ofNat 0+17)*48271).fmod 2147483647):=⟨Int.fmod_nonneg_of_pos _ (by decide),Int.fmod_lt_of_pos _ (by decide)⟩
 have fit {B:Int} (h:PySem.Builtin.Int.intBits B≤2 ^ 20+1) (b:Bool):IntMulOk B (Int.ofNat b.toNat):=.of_le (n:=1) h (by cases b<;>decide) (by decide)
 cases hi with
|nil=>exact ⟨_,_,.srcN src (pool0 G n e rfl rfl rfl rfl (mix_fit _) (fit (Nat.le_trans (by decide) (Nat.le_refl _)) _))⟩
|cons c t hi=>exact ⟨_,_,.srcN src (pool1 G n (t:=t) e rfl (by rw [hi.length];exact Nat.le_trans hz (by decide)) rfl rfl rfl rfl (mix_fit _) (fit (big_bits (hB c (.head _))) _))⟩
end
section
variable {g:Cx} (G:Gl g TT) (n:Nat)
include G
theorem row_cr {t:List Row} {i:Nat} (h:i<t.length):CR g (n+2) 419 [L0,.nat i] [.tree t] (.loc 0 (Part.of i RK.row)) ([.tree t]):=
 .gz G [.c,.b true,.o] (.c (decide_eq_true (Int.ofNat_lt.mpr h)) (.c (Nat.ble_eq_true_of_le h) .n))
theorem kind_cr {t:List Row} {i:Nat} {r:Row} (h:t[i]?=some r):CR g (n+3) 496 [L0,.nat i] [.tree t] (.str r.kind) ([.tree t]):=
 .gz G [.call [0] (.loc 0 (Part.of i RK.row)) [.tree t],.row r] (.c (row_cr G n (List.getElem?_eq_some_iff.mp h).1) (.c h .n))
theorem name_cr {t:List Row} {i:Nat} {r:Row} (h:t[i]?=some r):CR g (n+3) 503 [L0,.nat i] [.tree t] (.str r.name) ([.tree t]):=
 .gz G [.call [0] (.loc 0 (Part.of i RK.row)) [.tree t],.row r] (.c (row_cr G n (List.getElem?_eq_some_iff.mp h).1) (.c h .n))
theorem uri_cr {t:List Row} {i:Nat} {r:Row} (h:t[i]?=some r):CR g (n+3) 510 [L0,.nat i] [.tree t] (.str r.uri) ([.tree t]):=
 .gz G [.call [0] (.loc 0 (Part.of i RK.row)) [.tree t],.row r] (.c (row_cr G n (List.getElem?_eq_some_iff.mp h).1) (.c h .n))
theorem local_cr {t:List Row} {i:Nat} {r:Row} (h:t[i]?=some r):CR g (n+3) 517 [L0,.nat i] [.tree t] (.str r.loc) ([.tree t]):=
 .gz G [.call [0] (.loc 0 (Part.of i RK.row)) [.tree t],.row r] (.c (row_cr G n (List.getElem?_eq_some_iff.mp h).1) (.c h .n))
theorem value_cr {t:List Row} {i:Nat} {r:Row} (h:t[i]?=some r):CR g (n+3) 524 [L0,.nat i] [.tree t] (.str r.value) ([.tree t]):=
 .gz G [.call [0] (.loc 0 (Part.of i RK.row)) [.tree t],.row r] (.c (row_cr G n (List.getElem?_eq_some_iff.mp h).1) (.c h .n))
theorem par0_cr {t:List Row} {i:Nat} {k na u lo v:Str} {c a s:List Nat} (h:t[i]?=some ⟨k,na,u,lo,v,none,c,a,s⟩):CR g (n+3) 531 [L0,.nat i] [.tree t] (.none) ([.tree t]):=
 .gz G [.call [0] (.loc 0 (Part.of i RK.row)) [.tree t],.row { kind:=k,name:=na,uri:=u,loc:=lo,value:=v,par:=none,ch:=c,at_:=a,ns:=s }] (.c (row_cr G n (List.getElem?_eq_some_iff.mp h).1) (.c h .n))
theorem par1_cr {t:List Row} {i:Nat} {k na u lo v:Str} {c a s:List Nat} {p:Nat} (h:t[i]?=some ⟨k,na,u,lo,v,(some p),c,a,s⟩):CR g (n+3) 531 [L0,.nat i] [.tree t] (.nat p) ([.tree t]):=
 .gz G [.call [0] (.loc 0 (Part.of i RK.row)) [.tree t],.row { kind:=k,name:=na,uri:=u,loc:=lo,value:=v,par:=some p,ch:=c,at_:=a,ns:=s }] (.c (row_cr G n (List.getElem?_eq_some_iff.mp h).1) (.c h .n))
theorem atts_cr {t:List Row} {i:Nat} {r:Row} (h:t[i]?=some r):CR g (n+3) 545 [L0,.nat i] [.tree t] L1 ([.tree t,.ixs r.at_]):=
 .gz G [.call [0] (.loc 0 (Part.of i RK.row)) [.tree t],.row r,.row r] (.c (row_cr G n (List.getElem?_eq_some_iff.mp h).1) (.c h (.c h .n)))
theorem nss_cr {t:List Row} {i:Nat} {r:Row} (h:t[i]?=some r):CR g (n+3) 552 [L0,.nat i] [.tree t] L1 ([.tree t,.ixs r.ns]):=
 .gz G [.call [0] (.loc 0 (Part.of i RK.row)) [.tree t],.row r,.row r] (.c (row_cr G n (List.getElem?_eq_some_iff.mp h).1) (.c h (.c h .n)))
theorem mk0_cr {k na u lo v:Str}:CR g (n+2) 384 [L0,.str k,.str na,.str u,.str lo,.str v,.none] [.inst 387 []] (.none) ([.inst 387 [("kind",.str k),("name",.str na),("uri",.str u),("local",.str lo),("value",.str v),("parent",.none),("children",L1),("attributes",L2),("namespaces",L3)],.list [],.list [],.list []]):=
 .gz G [.k 0,.k 0,.k 0] .n
theorem mk1_cr {k na u lo v:Str} {p:Nat}:CR g (n+2) 384 [L0,.str k,.str na,.str u,.str lo,.str v,(.nat p)] [.inst 387 []] (.none) ([.inst 387 [("kind",.str k),("name",.str na),("uri",.str u),("local",.str lo),("value",.str v),("parent",.nat p),("children",L1),("attributes",L2),("namespaces",L3)],.list [],.list [],.list []]):=
 .gz G [.k 0,.k 0,.k 0] .n
end
theorem lt1 {t:List Row} {p:Nat} {r:Row} (h:t[p]?=some r) (r':Row):p<(t++[r']).length:=by
 rw [List.length_append];exact Nat.lt_succ_of_lt (List.getElem?_eq_some_iff.mp h).1
theorem at1 {t:List Row} {p:Nat} {r:Row} (h:t[p]?=some r) (r':Row):(t++[r'])[p]?=some r:=by
 rw [List.getElem?_append_left (List.getElem?_eq_some_iff.mp h).1];exact h
theorem len1 (t:List Row) (r:Row):AV.int (Int.ofNat (t++[r]).length - 1)=.nat t.length:=by
 rw [List.length_append]
 exact congrArg AV.int (Int.add_sub_cancel (a:=(t.length:Int)) (b:=1))
noncomputable abbrev Z3d (a:List Row):Hp:=[.tree (a++[Row.mk "root" "" "" "" "" none [] [] []])]
section
variable {g:Cx} (G:Gl g TT) (n:Nat)
include G
theorem new0_cr {t:List Row} {k na u lo v:Str} (h:Nat.blt t.length cap=true):CR g (n+4) 412 [.loc 0 .root,.str k,.str na,.str u,.str lo,.str v,.none] [.tree t] (.nat t.length) ([.tree (t++[⟨k,na,u,lo,v,none,[],[],[]⟩])]):=
 .go G 60 [Hint.call [1] (AV.val Value.none) [AObj.inst 387 [(Q_ "kind",AV.str k),(Q_ "name",AV.str na),(Q_ "uri",AV.str u),(Q_ "local",AV.str lo),(Q_ "value",AV.str v),(Q_ "parent",AV.val Value.none),(Q_ "children",L1),(Q_ "attributes",L2),(Q_ "namespaces",L3)],AObj.list [],AObj.list [],AObj.list []],Hint.k 0,Hint.row (Row.mk k na u lo v none [] [] []),Hint.o,Hint.gc [0] [Q_ "self"]] (Eq.mp (α:=CR g (n+2) 384 [L0,AV.str k,AV.str na,AV.str u,AV.str lo,AV.str v,AV.val Value.none] [AObj.inst 387 []] (AV.val Value.none) [AObj.inst 387 [(Q_ "kind",AV.str k),(Q_ "name",AV.str na),(Q_ "uri",AV.str u),(Q_ "local",AV.str lo),(Q_ "value",AV.str v),(Q_ "parent",AV.val Value.none),(Q_ "children",L1),(Q_ "attributes",L2),(Q_ "namespaces",L3)],AObj.list [],AObj.list [],AObj.list []]∧Fresh4 [AObj.tree t,AObj.inst 387 [((Q_ "kind",AV.str k).fst,AV.str k),((Q_ "name",AV.str na).fst,AV.str na),((Q_ "uri",AV.str u).fst,AV.str u),((Q_ "local",AV.str lo).fst,AV.str lo),((Q_ "value",AV.str v).fst,AV.str v),((Q_ "parent",AV.none).fst,AV.val Value.none),((Q_ "children",L1).fst,L2),((Q_ "attributes",L2).fst,L3),((Q_ "namespaces",L3).fst,L4)],AObj.list [],AObj.list [],AObj.list []] 1 (Row.mk k na u lo v none [] [] [])∧t.length.blt 1000000=true∧(AV.int (Int.ofNat (t++[bare (Row.mk k na u lo v none [] [] [])]).length - 1)=.nat t.length∧[AObj.tree (t++[bare (Row.mk k na u lo v none [] [] [])])]=[.tree (t++[⟨k,na,u,lo,v,none,[],[],[]⟩])])) (by kernel_rfl) ⟨mk0_cr G n,⟨rfl,rfl,rfl,rfl⟩,h,len1 _ _,rfl⟩)
theorem new1_cr {t:List Row} {k na u lo v:Str} {p:Nat} (h:Nat.blt t.length cap=true):CR g (n+4) 412 [.loc 0 .root,.str k,.str na,.str u,.str lo,.str v,(.nat p)] [.tree t] (.nat t.length) ([.tree (t++[⟨k,na,u,lo,v,(some p),[],[],[]⟩])]):=
 .go G 60 [Hint.call [1] (AV.val Value.none) [AObj.inst 387 [(Q_ "kind",AV.str k),(Q_ "name",AV.str na),(Q_ "uri",AV.str u),(Q_ "local",AV.str lo),(Q_ "value",AV.str v),(Q_ "parent",AV.nat p),(Q_ "children",L1),(Q_ "attributes",L2),(Q_ "namespaces",L3)],AObj.list [],AObj.list [],AObj.list []],Hint.k 0,Hint.row (Row.mk k na u lo v (some p) [] [] []),Hint.o,Hint.gc [0] [Q_ "self"]] (Eq.mp (α:=CR g (n+2) 384 [L0,AV.str k,AV.str na,AV.str u,AV.str lo,AV.str v,AV.nat p] [AObj.inst 387 []] (AV.val Value.none) [AObj.inst 387 [(Q_ "kind",AV.str k),(Q_ "name",AV.str na),(Q_ "uri",AV.str u),(Q_ "local",AV.str lo),(Q_ "value",AV.str v),(Q_ "parent",AV.nat p),(Q_ "children",L1),(Q_ "attributes",L2),(Q_ "namespaces",L3)],AObj.list [],AObj.list [],AObj.list []]∧Fresh4 [AObj.tree t,AObj.inst 387 [((Q_ "kind",AV.str k).fst,AV.str k),((Q_ "name",AV.str na).fst,AV.str na),((Q_ "uri",AV.str u).fst,AV.str u),((Q_ "local",AV.str lo).fst,AV.str lo),((Q_ "value",AV.str v).fst,AV.str v),((Q_ "parent",AV.nat p).fst,AV.nat p),((Q_ "children",L1).fst,L2),((Q_ "attributes",L2).fst,L3),((Q_ "namespaces",L3).fst,L4)],AObj.list [],AObj.list [],AObj.list []] 1 (Row.mk k na u lo v (some p) [] [] [])∧t.length.blt 1000000=true∧(AV.int (Int.ofNat (t++[bare (Row.mk k na u lo v (some p) [] [] [])]).length - 1)=.nat t.length∧[AObj.tree (t++[bare (Row.mk k na u lo v (some p) [] [] [])])]=[.tree (t++[⟨k,na,u,lo,v,(some p),[],[],[]⟩])])) (by kernel_rfl) ⟨mk1_cr G n,⟨rfl,rfl,rfl,rfl⟩,h,len1 _ _,rfl⟩)
theorem root_cr {t:List Row} (h:Nat.blt t.length cap=true):CR g (n+5) 426 [L0] [.tree t] (.int (Int.ofNat t.length)) ((Z3d t)):=
 .gz G [.call [0] (.int (Int.ofNat t.length)) (Z3d t)] (.c (new0_cr G n h:CR g (n+3+1) 412 [L0,.str "root",.str "",.str "",.str "",.str "",.none] [.tree t] (.int (Int.ofNat t.length)) (Z3d t)) .n)
theorem child_cr {t:List Row} {k na u lo v:Str} {p:Nat} {r:Row} (h:Nat.blt t.length cap=true) (hr:t[p]?=some r) (hk:inB r.kind ["root","element"]=true) (hc:Nat.blt r.ch.length cap=true):CR g (n+5) 433 [L0,.nat p,.str k,.str na,.str u,.str lo,.str v] [.tree t] (.int (Int.ofNat t.length)) ([.tree ((t++[Row.mk k na u lo v (some p) [] [] []]).set p (rowP t.length RK.ch r))]):=
 .gz G [.c,.call [0] (.loc 0 (Part.of p RK.row)) [.tree t],.row r,.b false,.call [0] (.int (Int.ofNat t.length)) [.tree (t++[Row.mk k na u lo v (some p) [] [] []])],.c,.o,.row r,.row r,.row r,.o] (.c (row_cr G (n+2) (List.getElem?_eq_some_iff.mp hr).1) (.c hr (.c ((by rw [hk];rfl):(!inB r.kind [Q_ "root",Q_ "element"])=false) (.c (new1_cr G n h:CR g (n+3+1) 412 [L0,.str k,.str na,.str u,.str lo,.str v,.nat p] [.tree t] (.int (Int.ofNat t.length)) [.tree (t++[Row.mk k na u lo v (some p) [] [] []])]) (.c (Nat.ble_eq_true_of_le (lt1 hr _):p.blt (t++[Row.mk k na u lo v (some p) [] [] []]).length=true) (.c (at1 hr _:(t++[Row.mk k na u lo v (some p) [] [] []])[p]?=some r) (.c (at1 hr _:(t++[Row.mk k na u lo v (some p) [] [] []])[p]?=some r) (.c (at1 hr _:(t++[Row.mk k na u lo v (some p) [] [] []])[p]?=some r) (.c hc .n)))))))))
end
noncomputable def tgtN (sc:Scope) (t:Expr) (k:Str):Bool:=(asName t).elim false fun q=>strB q.1 k&&stN sc q.1
noncomputable def tgtC (sc:Scope) (t:Expr) (k:Str):Bool:=(asName t).elim false fun q=>strB q.1 k&&isKind .local (look q.1 sc.names)
noncomputable def asTwo (t:Expr):Option {q:Expr×Expr // ∃ c p,t=.Tuple [q.1,q.2] c p}:=match t with
|.Tuple [e,f] c p=>some ⟨(e,f),c,p,rfl⟩
|_=>none
noncomputable def tgt2 (sc:Scope) (t:Expr) (k k':Str):Bool:=(asTwo t).elim false fun q=>noStar q.1.1&&(noStar q.1.2&&(tgtN sc q.1.1 k&&tgtN sc q.1.2 k'))
noncomputable def tgtC2 (sc:Scope) (t:Expr) (k k':Str):Bool:=(asTwo t).elim false fun q=>tgtC sc q.1.1 k&&tgtC sc q.1.2 k'
theorem elim_s {α:Type} {o:Option α} {f:α→Bool} (h:o.elim false f=true):∃ q,f q=true:=by
 cases o with
|none=>cases h
|some q=>exact ⟨q,h⟩
section
variable {g:Cx} {n:Nat} {D:Nat→Prop} {sc:Scope} {tgt:Expr} {body:List Stmt} {src:Src} {fl:Fl} {vs':Vars} {a':Hp}
theorem LoR.steps (vsF:Nat→Vars) (aF:Nat→Hp) {j:Nat}:∀ {k:Nat},(∀ i,i<j→∃ x vs₁,srcAt (aF i) i src=some (some x)∧AsR g n sc tgt x (vsF i) (aF i) vs₁ (aF i)∧SsR g n D sc vs₁ body (aF i) .next (vsF (i+1)) (aF (i+1)))→LoR g n D sc tgt body src fl vs' a' k j (vsF j) (aF j)→∃ k,LoR g n D sc tgt body src fl vs' a' k 0 (vsF 0) (aF 0):=by
 induction j with
|zero=>exact fun {k} _ L=>⟨k,L⟩
|succ j ih=>exact fun {k} step L=>by obtain ⟨x,vs₁,h1,h2,h3⟩:=step j (Nat.lt_succ_self _);exact ih (fun i hi=>step i (Nat.lt_succ_of_lt hi)) (.turn h1 h2 h3 L)
theorem LoR.all (vsF:Nat→Vars) (aF:Nat→Hp) {j:Nat} (step:∀ i,i<j→∃ x vs₁,srcAt (aF i) i src=some (some x)∧AsR g n sc tgt x (vsF i) (aF i) vs₁ (aF i)∧SsR g n D sc vs₁ body (aF i) .next (vsF (i+1)) (aF (i+1))) (h:srcAt (aF j) j src=some none):∃ k,LoR g n D sc tgt body src .next (vsF j) (aF j) k 0 (vsF 0) (aF 0):=
 LoR.steps vsF aF step (.done rfl h)
theorem srcAt_lst {a:Hp} {v:AV} {xs:List AV} {i:Nat} (e:listOf a v=some xs):srcAt a i (.lst v)=some xs[i]?:=by
 rw [srcAt,e];rfl
theorem listOf_row {a:Hp} {m i:Nat} {t:List Row} {k:RK} {r:Row} {l:List Nat} (e:a[m]?=some (.tree t)) (hr:t[i]?=some r) (hl:rowL k r=some l):listOf a (.loc m (.of i k))=some (intsAV l):=listOf_of e ((view_row hr).trans (congrArg some (rowL_s hl)))
theorem ints_some {l:List Nat} {i j:Nat} (h:l[i]?=some j):(intsAV l)[i]?=some (.nat j):=by rw [intsAV,List.getElem?_map,h];rfl
theorem ints_none {l:List Nat}:(intsAV l)[l.length]?=none:=List.getElem?_eq_none_iff.mpr (by rw [intsAV_length];exact Nat.le_refl _)
theorem tgtN_s {k:Str} (h:tgtN sc tgt k=true):∃ p,tgt=.Name k p∧StN sc k:=by
 obtain ⟨⟨q,p,e⟩,h⟩:=elim_s h
 have h:=(Bool.and_eq_true _ _).mp h
 obtain rfl:q=k:=strB_iff.mp h.1
 exact ⟨p,e,stN_s h.2⟩
theorem tgtC_s {k:Str} (h:tgtC sc tgt k=true):∃ p,tgt=.Name k p∧look k sc.names=some .local:=by
 obtain ⟨⟨q,p,e⟩,h⟩:=elim_s h
 have h:=(Bool.and_eq_true _ _).mp h
 obtain rfl:q=k:=strB_iff.mp h.1
 exact ⟨p,e,isKind_iff h.2⟩
theorem AsR.nm {k:Str} {v:AV} {vs:Vars} {a:Hp} (h:tgtN sc tgt k=true):AsR g n sc tgt v vs a (setL k v vs) a:=by
 obtain ⟨p,rfl,hk⟩:=tgtN_s h
 exact .name hk
theorem AsC.nm {k:Str} {v:AV} {vs:Vars} (h:tgtC sc tgt k=true):AsC g n sc tgt v vs (setL k v vs):=by
 obtain ⟨p,rfl,hk⟩:=tgtC_s h
 exact .name hk
theorem AsR.nm2 {k k':Str} {x y:AV} {vs:Vars} {a:Hp} (h:tgt2 sc tgt k k'=true):AsR g n sc tgt (.tup [x,y]) vs a (setL k' y (setL k x vs)) a:=by
 obtain ⟨⟨q,c,p,rfl⟩,h⟩:=elim_s h
 have h1:=(Bool.and_eq_true _ _).mp h
 have h2:=(Bool.and_eq_true _ _).mp h1.2
 have h3:=(Bool.and_eq_true _ _).mp h2.2
 exact .tup rfl (.cons h1.1 (.nm h3.1) (.cons h2.1 (.nm h3.2) .nil))
theorem AsC.nm2 {k k':Str} {x y:AV} {vs:Vars} (h:tgtC2 sc tgt k k'=true):AsC g n sc tgt (.tup [x,y]) vs (setL k' y (setL k x vs)):=by
 obtain ⟨⟨⟨e,f⟩,c,p,rfl⟩,h⟩:=elim_s h
 have h1:=(Bool.and_eq_true _ _).mp h
 obtain ⟨p,e1,h2⟩:=tgtC_s h1.1
 obtain ⟨p',e2,h3⟩:=tgtC_s h1.2
 obtain rfl:e=_:=e1
 obtain rfl:f=_:=e2
 exact .pair h2 h3
theorem LoR.same {a:Hp} {vs:Vars} {v:AV} {l:List Nat} (e:listOf a v=some (intsAV l)) (step:∀ j∈l,∃ vs₁,AsR g n sc tgt (.nat j) vs a vs₁ a∧SsR g n D sc vs₁ body a .next vs a):∃ k,LoR g n D sc tgt body (.lst v) .next vs a k 0 vs a:=
 LoR.all (fun _=>vs) (fun _=>a) (j:=l.length) (fun i hi=>by obtain ⟨vs₁,h1,h2⟩:=step l[i] (List.getElem_mem hi);exact ⟨_,vs₁,(srcAt_lst e).trans (congrArg some (ints_some (List.getElem?_eq_getElem hi))),h1,h2⟩) ((srcAt_lst e).trans (congrArg some ints_none))
end
noncomputable abbrev Z2x (a:List Row) (b c d:Str) (e:Nat) (f:Row):Hp:=[.tree ((a++[Row.mk "element" b c d "" (some e) [] [] []]).set e (rowP a.length RK.ch f))]
noncomputable abbrev Z3l (a:Nat) (b c:Str):Vars:=[("self",L0),("element",.nat a),("prefix",.str b),("uri",.str c),("row",.loc 0 (Part.of a RK.row))]
section
variable {g:Cx} (G:Gl g TT) (n:Nat)
include G
theorem el_cr {t:List Row} {p:Nat} {na u lo:Str} {r:Row} (h:Nat.blt t.length cap=true) (hr:t[p]?=some r) (hk:inB r.kind ["root","element"]=true) (hc:Nat.blt r.ch.length cap=true):CR g (n+6) 440 [L0,.nat p,.str na,.str u,.str lo] [.tree t] (.int (Int.ofNat t.length)) ((Z2x t na u lo p r)):=
 .gz G [.call [0] (.int (Int.ofNat t.length)) (Z2x t na u lo p r)] (.c (child_cr G n h hr hk hc:CR g (n+4+1) 433 [L0,.nat p,.str "element",.str na,.str u,.str lo,.str ""] [.tree t] (.int (Int.ofNat t.length)) (Z2x t na u lo p r)) .n)
theorem elrow_cr {t:List Row} {i:Nat} {r:Row} (h:t[i]?=some r) (hk:strB r.kind (Q_ "element")=true):CR g (n+3) 468 [L0,.nat i] [.tree t] (.loc 0 (Part.of i RK.row)) ([.tree t]):=
 .gz G [.call [0] (.loc 0 (Part.of i RK.row)) [.tree t],.row r,.b false] (.c (row_cr G n (List.getElem?_eq_some_iff.mp h).1) (.c h (.c ((by rw [hk];rfl):(bif true then !strB r.kind (Q_ "element") else strB r.kind (Q_ "element"))=false) .n)))
theorem addns_turn {t:List Row} {i j:Nat} {p u:Str} {r:Row} (h:t[j]?=some r) (hp:strB r.name p=false):SsR g (n+1) (fun i=>i<1) (scF 482) (setL "node" (.nat j) [("self",L0),("element",.nat i),("prefix",.str p),("uri",.str u),("row",.loc 0 (.row i))]) (ssF 482 [1]) [.tree t] .next ((Z3l i p u)) ([.tree t]):=
 .gz G [.o,.row r,.b false,.gc [0] ["self","element","prefix","uri","row"]] (.c (Nat.ble_eq_true_of_le (List.getElem?_eq_some_iff.mp h).1) (.c h (.c hp .n)))
theorem addns_cr {t:List Row} {i:Nat} {p u:Str} {r:Row} (h:Nat.blt t.length cap=true) (hr:t[i]?=some r) (hk:strB r.kind (Q_ "element")=true) (hn:∀ j∈r.ns,∃ s,t[j]?=some s∧strB s.name p=false) (hc:Nat.blt r.ns.length cap=true):CR g (n+5) 482 [L0,.nat i,.str p,.str u] [.tree t] (.int (Int.ofNat t.length)) ([.tree ((t++[Row.mk "namespace" p "" p u (some i) [] [] []]).set i (rowP t.length RK.nss r))]):=
 .gz G [.call [0] (.loc 0 (Part.of i RK.row)) [.tree t],.row r,.row r,.loop .next (Z3l i p u) [.tree t],.call [0] (.int (Int.ofNat t.length)) [.tree (t++[Row.mk "namespace" p "" p u (some i) [] [] []])],.row r,.row r,.row r,.o] (.c (elrow_cr G (n+1) hr hk) (.c hr (.c hr (.c (LoR.same (listOf_row rfl hr rfl) fun j hj=>by obtain ⟨s,h1,h2⟩:=hn j hj;exact ⟨_,.nm (k:=Q_ "node") (by kernel_rfl),addns_turn G (n+3) h1 h2⟩:∃ k,LoR g (n+3+1) (fun i=>i<[AObj.tree t].length) (scF 482) (forT (stF 482 [] 1)) (ssF 482 [1]) (Src.lst (AV.loc 0 (Part.of i RK.nss))) Fl.next [(Q_ "self",L0),(Q_ "element",AV.nat i),(Q_ "prefix",AV.str p),(Q_ "uri",AV.str u),(Q_ "row",AV.loc 0 (Part.of i RK.row))] [AObj.tree t] k 0 [(Q_ "self",L0),(Q_ "element",AV.nat i),(Q_ "prefix",AV.str p),(Q_ "uri",AV.str u),(Q_ "row",AV.loc 0 (Part.of i RK.row))] [AObj.tree t]) (.c (VIn.loc (Nat.zero_lt_succ _):SrcIn (fun i=>i<[AObj.tree t].length) (Src.lst (AV.loc 0 (Part.of i RK.nss)))) (.c (new1_cr G n h:CR g (n+3+1) 412 [L0,.str "namespace",.str p,.str "",.str p,.str u,.nat i] [.tree t] (.int (Int.ofNat t.length)) [.tree (t++[Row.mk "namespace" p "" p u (some i) [] [] []])]) (.c (at1 hr _:(t++[Row.mk (Q_ "namespace") p (Q_ "") p u (some i) [] [] []])[i]?=some r) (.c (at1 hr _:(t++[Row.mk (Q_ "namespace") p (Q_ "") p u (some i) [] [] []])[i]?=some r) (.c (at1 hr _:(t++[Row.mk (Q_ "namespace") p (Q_ "") p u (some i) [] [] []])[i]?=some r) (.c hc .n))))))))))
end
section
noncomputable def parN (i:Nat):Option Nat:=match i with
|0=>none
|j+1=>some j
def LineOk (rows:List Row) (k:Nat):Prop:=∀ i,i≤k→∃ w,rows[i]?=some w∧w.par=parN i
structure El where
 uri:Str
 ps:SS
 ats:List (Str×Str×Str)
def NsOk (rows:List Row) (ns:List Nat) (ps:SS):Prop:=ns.length=ps.length∧∀ (i k:Nat),ns[i]?=some k→∃ (w:Row) (p:Str×Str),rows[k]?=some w∧ps[i]?=some p∧w.name=p.1∧w.value=p.2∧w.kind=Str.ofString "namespace"
def AtOk (rows:List Row) (own:Nat) (at_:List Nat) (ats:List (Str×Str×Str)):Prop:=at_.length=ats.length∧at_.Nodup∧∀ (i k:Nat),at_[i]?=some k→∃ (w:Row) (p:Str×Str×Str),rows[k]?=some w∧ats[i]?=some p∧w.loc=p.1∧w.uri=p.2.1∧w.value=p.2.2∧w.kind=Str.ofString "attribute"∧w.par=some own
structure TV (rows:List Row) (es:List El):Prop where
 root:∃ w,rows[0]?=some w∧w.kind=Str.ofString "root"∧w.par=none∧w.ns=[]
 el:∀ i e,es[i]?=some e→∃ w,rows[i+1]?=some w∧w.kind=Str.ofString "element"∧w.par=some i∧w.uri=e.uri∧NsOk rows w.ns e.ps∧AtOk rows (i+1) w.at_ e.ats
theorem TV.line {rows:List Row} {es:List El} (h:TV rows es) {k:Nat} (hk:k≤es.length):LineOk rows k:=by
 intro i hi
 cases i with
|zero=>obtain ⟨w,h1,_,h3,_⟩:=h.root;exact ⟨w,h1,h3⟩
|succ j=>
  have hj:j<es.length:=by omega
  obtain ⟨w,h1,_,h3,_⟩:=h.el j es[j] (List.getElem?_eq_getElem hj)
  exact ⟨w,h1,h3⟩
theorem setL_len (x v:Str) (es:SS):(setL x v es).length≤es.length+1:=by
 induction es with
|nil=>exact Nat.le_refl _
|cons p r ih=>
  unfold setL
  cases strB x p.1 with
 |true=>exact Nat.le_succ _
 |false=>exact Nat.succ_le_succ ih
theorem delL_len (x:Str) (es:SS):(delL x es).length≤es.length:=by
 induction es with
|nil=>exact Nat.le_refl _
|cons p r ih=>
  unfold delL
  cases strB x p.1 with
 |true=>exact Nat.le_succ _
 |false=>exact Nat.succ_le_succ ih
noncomputable def scStep (f:SS) (p:Str×Str):SS:=bif strB p.2 (Str.ofString "") then (bif (look p.1 f).isSome then delL p.1 f else f) else setL p.1 p.2 f
theorem scStep_len (f:SS) (p:Str×Str):(scStep f p).length≤f.length+1:=by
 unfold scStep
 cases strB p.2 (Str.ofString "") with
|false=>exact setL_len _ _ _
|true=>cases (look p.1 f).isSome with
 |true=>exact Nat.le_succ_of_le (delL_len _ _)
 |false=>exact Nat.le_succ _
theorem scFold_len (ps:SS):∀ f,(ps.foldl scStep f).length≤f.length+ps.length:=by
 induction ps with
|nil=>exact fun f=>Nat.le_refl _
|cons p r ih=>exact fun f=>Nat.le_trans (ih (scStep f p)) (by have:=scStep_len f p;rw [List.length_cons];omega)
noncomputable def nodePs (es:List El):Nat→SS
|0=>[]
|i+1=>(es[i]?.map (·.ps)).getD []
noncomputable def XMLU:Str:=Str.ofString "http://www.w3.org/XML/1998/namespace"
noncomputable def scopeN (es:List El):Nat→SS
|0=>[(Str.ofString "xml",XMLU)]
|i+1=>(nodePs es i).foldl scStep (scopeN es i)
def Few (es:List El):Prop:=es.length≤10∧∀ e∈es,e.ps.length≤20
theorem nodePs_len {es:List El} (h:Few es) (i:Nat):(nodePs es i).length≤20:=by
 cases i with
|zero=>exact Nat.zero_le _
|succ i=>
  show ((es[i]?.map (·.ps)).getD []).length≤20
  cases q:es[i]? with
 |none=>exact Nat.zero_le _
 |some e=>exact h.2 e (List.mem_of_getElem? q)
theorem scopeN_len {es:List El} (h:Few es) (i:Nat):(scopeN es i).length≤1+20*i:=by
 induction i with
|zero=>exact Nat.le_refl _
|succ i ih=>exact Nat.le_trans (scFold_len (nodePs es i) (scopeN es i)) (by have:=nodePs_len h i;omega)
theorem TV.node {rows:List Row} {es:List El} (h:TV rows es) {i:Nat} (hi:i≤es.length):∃ w,rows[i]?=some w∧NsOk rows w.ns (nodePs es i):=by
 cases i with
|zero=>
  obtain ⟨w,h1,_,_,h4⟩:=h.root
  exact ⟨w,h1,by rw [h4];exact ⟨rfl,fun i k z=>nomatch z⟩⟩
|succ j=>
  have hj:j<es.length:=by omega
  obtain ⟨w,h1,_,_,_,h5,_⟩:=h.el j es[j] (List.getElem?_eq_getElem hj)
  refine ⟨w,h1,?_⟩
  show NsOk rows w.ns ((es[j]?.map (·.ps)).getD [])
  rw [List.getElem?_eq_getElem hj];exact h5
noncomputable def optS:Option Str→AV
|none=>.none
|some s=>.str s
noncomputable def attrOf (l u:Str):List (Str×Str×Str)→Option Str
|[]=>none
|p::r=>bif strB p.1 l&&strB p.2.1 u then some p.2.2 else attrOf l u r
noncomputable def isSp (c:Nat):Bool:=bif subB ⟨#[c]⟩ ⟨#[32,9,10,13]⟩ then !strB ⟨#[c]⟩ (Str.ofString "") else false
noncomputable def splStep (s:Str) (i:Nat) (f:List Str×Nat):List Str×Nat:=bif (s.cps.toList[i]?.map isSp).getD true then (bif Nat.blt f.2 i then f.1++[subst s f.2 i] else f.1,i+1) else f
noncomputable def splN (s:Str):Nat→List Str×Nat
|0=>([],0)
|i+1=>splStep s i (splN s i)
noncomputable def spl (s:Str):List Str:=(splN s (s.cps.toList.length+1)).1
theorem splN_le (s:Str) (i:Nat):(splN s i).2≤i∧(splN s i).1.length≤i:=by
 induction i with
|zero=>exact ⟨Nat.le_refl _,Nat.le_refl _⟩
|succ i ih=>
  show (splStep s i (splN s i)).2≤i+1∧(splStep s i (splN s i)).1.length≤i+1
  unfold splStep
  cases (s.cps.toList[i]?.map isSp).getD true with
 |true=>
   refine ⟨Nat.le_refl _,?_⟩
   cases Nat.blt (splN s i).2 i with
  |true=>show (_++[_]).length≤_;rw [List.length_append];exact Nat.succ_le_succ ih.2
  |false=>exact Nat.le_succ_of_le ih.2
 |false=>exact ⟨Nat.le_succ_of_le ih.1,Nat.le_succ_of_le ih.2⟩
noncomputable def XSLTU:Str:=Str.ofString "http://www.w3.org/1999/XSL/Transform"
noncomputable def elU (u:Str):Str:=bif strB u XSLTU then Str.ofString "" else XSLTU
noncomputable def EXCS:Str:=Str.ofString "exclude-result-prefixes"
noncomputable def EXTS:Str:=Str.ofString "extension-element-prefixes"
noncomputable def excS (e:El):Str:=(attrOf EXCS (elU e.uri) e.ats).getD (Str.ofString "")
noncomputable def extS (e:El):Str:=(attrOf EXTS (elU e.uri) e.ats).getD (Str.ofString "")
noncomputable def namesS (e:El):Str:=excS e++Str.ofString " "++extS e
noncomputable def dflt (w:Str):Str:=bif strB w (Str.ofString "#default") then Str.ofString "" else w
noncomputable def goneF (sc:SS) (w:Str):Str:=(look (dflt w) sc).getD (Str.ofString "")
noncomputable def nodeGone (es:List El):Nat→List Str
|0=>[]
|i+1=>(es[i]?.map fun e=>(spl (namesS e)).map (goneF (scopeN es (i+2)))).getD []
noncomputable def goneN (es:List El):Nat→List Str
|0=>[XSLTU]
|i+1=>goneN es i++nodeGone es i
structure WdOk (es:List El) (i:Nat) (e:El):Prop where
 short:(excS e).cps.toList.length≤200∧(extS e).cps.toList.length≤200
 bound:∀ w∈spl (namesS e),(look (dflt w) (scopeN es (i+2))).isSome=true
theorem goneN_mono (es:List El) {i j:Nat} (h:i≤j):(goneN es i).length≤(goneN es j).length:=by
 induction h with
|refl=>exact Nat.le_refl _
|step _ ih=>exact Nat.le_trans ih (by rw [goneN,List.length_append];exact Nat.le_add_right ..)
theorem len_cps (s:Str):s.length=s.cps.toList.length:=by simp [Str.length]
theorem names_len {es:List El} {i:Nat} {e:El} (h:WdOk es i e):(namesS e).cps.toList.length≤401:=by
 unfold namesS
 rw [← len_cps,Str.length_append,Str.length_append,len_cps,len_cps,len_cps]
 have:=h.short
 have:(Str.ofString " ").cps.toList.length=1:=by decide +kernel
 omega
end
noncomputable abbrev Z3n (a:Nat):Vars:=[("tree",L0),("node",.nat a),("found",L1)]
noncomputable abbrev Z3b:Vars:=[("tree",L0),("node",.none),("found",L1)]
section
variable {g:Cx} (G:Gl g TT) (n:Nat)
include G
theorem lines_turn0 {t:List Row} {j:Nat} {kk na u lo v:Str} {c at1 s l:List Nat} (h:t[j]?=some (Row.mk kk na u lo v none c at1 s)) (hl:Nat.blt l.length cap=true):SsR g (n+3) (fun i=>i<2) (scF 171) (Z3n j) (ssF 171 [1]) [.tree t,.ixs l] .next (Z3b) ([.tree t,.ixs (l++[j])]):=
 .gz G [.o,.call [0] (.none) [.tree t]] (.c hl (.c (par0_cr G n h) .n))
theorem lines_turn1 {t:List Row} {j:Nat} {kk na u lo v:Str} {c at1 s l:List Nat} {p:Nat} (h:t[j]?=some (Row.mk kk na u lo v (some p) c at1 s)) (hl:Nat.blt l.length cap=true):SsR g (n+3) (fun i=>i<2) (scF 171) (Z3n j) (ssF 171 [1]) [.tree t,.ixs l] .next ((Z3n p)) ([.tree t,.ixs (l++[j])]):=
 .gz G [.o,.call [0] (.nat p) [.tree t]] (.c hl (.c (par1_cr G n h) .n))
theorem lines_testT {t:List Row} {j:Nat} {l:List Nat}:TvR g (n+1) (scF 171) [("tree",L0),("node",(.nat j)),("found",L1)] (exF 171 [] 1 []) [.tree t,.ixs l] true [.tree t,.ixs l]:=
 .gz G [.c] .n
theorem lines_testF {t:List Row} {l:List Nat}:TvR g (n+1) (scF 171) Z3b (exF 171 [] 1 []) [.tree t,.ixs l] false [.tree t,.ixs l]:=
 .gz G [.c] .n
theorem lines_loop {t:List Row} {k:Nat} (H:LineOk t k):∀ (j:Nat) (l:List Nat),j≤k→l.length+j<1000→∃ kk,WhR g (n+3) (fun i=>i<2) (scF 171) (exF 171 [] 1 []) (ssF 171 [1]) Z3b [.tree t,.ixs (l++(List.range (j+1)).reverse)] kk [("tree",L0),("node",.nat j),("found",L1)] [.tree t,.ixs l]:=by
 have cp:∀ {l:List Nat},l.length<1000→Nat.blt l.length cap=true:=fun h=>Nat.ble_eq_true_of_le (Nat.le_trans h (Nat.le_of_ble_eq_true rfl))
 intro j
 induction j with
|zero=>
  intro l hj hl
  obtain ⟨w,h1,h2⟩:=H 0 hj
  cases w
  cases h2
  exact ⟨_,.turn (lines_testT G (n+2)) (lines_turn0 G n h1 (cp (by omega))) (.done (lines_testF G (n+2)) rfl)⟩
|succ j ih=>
  intro l hj hl
  obtain ⟨w,h1,h2⟩:=H (j+1) hj
  cases w
  cases h2
  obtain ⟨kk,L⟩:=ih (l++[j+1]) (Nat.le_of_succ_le hj) (by rw [List.length_append,List.length_singleton];omega)
  rw [List.append_assoc,show [j+1]++(List.range (j+1)).reverse=(List.range (j+1+1)).reverse by rw [List.range_succ (n:=j+1),List.reverse_append];rfl] at L
  exact ⟨_,.turn (lines_testT G (n+2)) (lines_turn1 G n h1 (cp (by omega))) L⟩
theorem lines_cr {t:List Row} {k:Nat} (H:LineOk t k) (hk:k<900):CR g (n+4) 171 [L0,.nat k] [.tree t] L1 ([.tree t,.ixs (List.range (k+1))]):=
 .gy G [.k 2,.loop .next [("tree",L0),("node",.none),("found",L1)] [.tree t,.ixs ([]++(List.range (k+1)).reverse)],.gc [0,1] ["found"],.gc [0,2] []] (.c (lines_loop G n H k [] (Nat.le_refl _) (by rw [List.length_nil];omega)) .n) ⟨rfl,(congrArg (fun l=>[AObj.tree t,.ixs l]) (List.reverse_reverse _):[AObj.tree t,AObj.ixs (List.reverse ([]++(List.range (k+1)).reverse))]=[.tree t,.ixs (List.range (k+1))])⟩
end
theorem ble500 {α:Type} {l:List α} {k:Nat} (h:l.length≤k) (hk:k≤500):Nat.ble l.length 500=true:=Nat.ble_eq_true_of_le (Nat.le_trans h hk)
theorem srcAt_ixs {a:Hp} {m i:Nat} {l:List Nat} (e:a[m]?=some (.ixs l)):srcAt a i (.lst (.loc m .root))=some ((l[i]?).map .nat):=by
 rw [srcAt_lst (listOf_of e rfl),intsAV,List.getElem?_map]
noncomputable abbrev Z14 (a b:Nat):Vars:=[("tree",L0),("element",.nat a),("found",L1),("above",.nat b)]
noncomputable abbrev Z3h (a:List Row) (b:SS) (c:Row) (d e:List Nat):Hp:=[.tree a,.dss (scStep b (c.name,c.value)),.ixs d,.ixs e]
noncomputable abbrev Z10 (a:Nat):Vars:=[("tree",L0),("element",.nat a),("found",L1)]
noncomputable abbrev Z3k:List Str:=["tree","element","found"]
section
variable {g:Cx} (G:Gl g TT) (n:Nat)
include G
theorem sc_set {t:List Row} {i j k:Nat} {r:Row} {f:SS} {R N:List Nat} (h:t[j]?=some r) (hf:Nat.ble f.length 500=true) (hu:strB r.value (Q_ "")=false):SsR g (n+3) (fun i=>i<4) (scF 178) (setL "node" (.nat j) (Z14 k i)) (ssF 178 [1,0]) [.tree t,.dss f,.ixs R,.ixs N] .next ((Z14 k i)) ((Z3h t f r R N)):=
 .gy G [.call [0] (.str r.name) [.tree t],.call [0] (.str r.value) [.tree t],.b true,.s,.o,.gc [0,1,2,3] ["tree","element","found","above"]] (.c (name_cr G n h) (.c (value_cr G n h) (.c ((by rw [hu];rfl):(bif true then !strB r.value (Q_ "") else strB r.value (Q_ ""))=true) (.c hf .n)))) ⟨rfl,rfl,(by unfold scStep;rw [hu];rfl:[AObj.tree t,AObj.dss (setL r.name r.value f),AObj.ixs R,AObj.ixs N]=[.tree t,.dss (scStep f (r.name,r.value)),.ixs R,.ixs N])⟩
theorem sc_pop {t:List Row} {i j k:Nat} {r:Row} {f:SS} {R N:List Nat} (h:t[j]?=some r) (hf:Nat.ble f.length 500=true) (hu:strB r.value (Q_ "")=true) {q:Str} (hq:look r.name f=some q):SsR g (n+3) (fun i=>i<4) (scF 178) (setL "node" (.nat j) (Z14 k i)) (ssF 178 [1,0]) [.tree t,.dss f,.ixs R,.ixs N] .next ((Z14 k i)) ((Z3h t f r R N)):=
 .gy G [.call [0] (.str r.name) [.tree t],.call [0] (.str r.value) [.tree t],.b false,.s,.b true,.s,.b true,.v (.str q),.o,.gc [0,1,2,3] ["tree","element","found","above"]] (.c (name_cr G n h) (.c (value_cr G n h) (.c ((by rw [hu];rfl):(bif true then !strB r.value (Q_ "") else strB r.value (Q_ ""))=false) (.c ((by rw [hq];rfl):(look r.name f).isSome=true) (.c hq (.c (Nat.ble_eq_true_of_le (Nat.le_trans (Nat.le_of_ble_eq_true hf) (Nat.le_of_ble_eq_true rfl)):f.length.ble 1000=true) .n)))))) ⟨rfl,rfl,(by unfold scStep;rw [hu,hq];rfl:[AObj.tree t,AObj.dss (delL r.name f),AObj.ixs R,AObj.ixs N]=[.tree t,.dss (scStep f (r.name,r.value)),.ixs R,.ixs N])⟩
theorem sc_not {t:List Row} {i j k:Nat} {r:Row} {f:SS} {R N:List Nat} (h:t[j]?=some r) (hf:Nat.ble f.length 500=true) (hu:strB r.value (Q_ "")=true) (hq:look r.name f=none):SsR g (n+3) (fun i=>i<4) (scF 178) (setL "node" (.nat j) (Z14 k i)) (ssF 178 [1,0]) [.tree t,.dss f,.ixs R,.ixs N] .next ((Z14 k i)) ((Z3h t f r R N)):=
 .gy G [.call [0] (.str r.name) [.tree t],.call [0] (.str r.value) [.tree t],.b false,.s,.b false,.gc [0,1,2,3] ["tree","element","found","above"]] (.c (name_cr G n h) (.c (value_cr G n h) (.c ((by rw [hu];rfl):(bif true then !strB r.value (Q_ "") else strB r.value (Q_ ""))=false) (.c ((by rw [hq];rfl):(look r.name f).isSome=false) .n)))) ⟨rfl,rfl,(by unfold scStep;rw [hu,hq];rfl:[AObj.tree t,AObj.dss f,AObj.ixs R,AObj.ixs N]=[.tree t,.dss (scStep f (r.name,r.value)),.ixs R,.ixs N])⟩
theorem sc_turn {t:List Row} {i j k:Nat} {r:Row} {f:SS} {R N:List Nat} (h:t[j]?=some r) (hf:Nat.ble f.length 500=true):SsR g (n+3) (fun i=>i<4) (scF 178) (setL "node" (.nat j) (Z14 k i)) (ssF 178 [1,0]) [.tree t,.dss f,.ixs R,.ixs N] .next (Z14 k i) (Z3h t f r R N):=by
 cases hu:strB r.value "" with
|false=>exact sc_set G n h hf hu
|true=>cases hq:look r.name f with
 |none=>exact sc_not G n h hf hu hq
 |some q=>exact sc_pop G n h hf hu hq
theorem sc_inner {t:List Row} {i k:Nat} {f:SS} {R N:List Nat} {ps:SS} (H:NsOk t N ps) (hf:f.length+ps.length≤500):
  ∃ kk,LoR g (n+3) (fun i=>i<4) (scF 178) (forT (stF 178 [1] 0)) (ssF 178 [1,0]) (.lst L3) .next (Z14 k i) [.tree t,.dss (ps.foldl scStep f),.ixs R,.ixs N] kk 0 (Z14 k i) [.tree t,.dss f,.ixs R,.ixs N]:=by
 have L:=LoR.all (g:=g) (n:=n+3) (D:=fun i=>i<4) (sc:=scF 178) (tgt:=forT (stF 178 [1] 0)) (body:=ssF 178 [1,0]) (src:=.lst L3) (fun _=>(Z14 k i)) (fun j=>[.tree t,.dss ((ps.take j).foldl scStep f),.ixs R,.ixs N]) (j:=ps.length) (fun j hj=>?_) ?_
 ·rw [List.take_length] at L;exact L
 ·have hj':j<N.length:=H.1▸hj
  obtain ⟨w,p,h1,h2,h3,h4,_⟩:=H.2 j N[j] (List.getElem?_eq_getElem hj')
  have e:ps.take (j+1)=ps.take j++[(w.name,w.value)]:=by
   rw [List.take_succ,h2,show p=(w.name,w.value) from Prod.ext h3.symm h4.symm];rfl
  refine ⟨.nat N[j],_,by rw [srcAt_ixs rfl,List.getElem?_eq_getElem hj'];rfl,.nm (k:=Q_ "node") (by kernel_rfl),?_⟩
  rw [e,List.foldl_append]
  refine sc_turn G n h1 (ble500 (scFold_len (ps.take j) f) ?_)
  rw [List.length_take];omega
 ·rw [srcAt_ixs rfl,List.getElem?_eq_none_iff.mpr (H.1▸Nat.le_refl _)];rfl
theorem sc_outer {t:List Row} {i k:Nat} {w:Row} {f:SS} {R:List Nat} {ps:SS} (h:t[i]?=some w) (H:NsOk t w.ns ps) (hf:f.length+ps.length≤500):SsR g (n+3) (fun i=>i<3) (scF 178) (setL "above" (.nat i) (Z10 k)) (ssF 178 [1]) [.tree t,.dss f,.ixs R] .next ((Z10 k)) ([.tree t,.dss (List.foldl scStep f ps),.ixs R]):=
 .gz G [.call [0] L1 [.tree t,.ixs w.ns],.loop .next (Z14 k i) [.tree t,.dss (List.foldl scStep f ps),.ixs R,.ixs w.ns],.gc [0,1,2] Z3k] (.c (nss_cr G n h) (.c (sc_inner G n H hf:∃ k_1,LoR g (n+2+1) (fun i=>i<4) (scF 178) (forT (stF 178 [1] 0)) (ssF 178 [1,0]) (Src.lst L3) Fl.next [(Q_ "tree",L0),(Q_ "element",AV.nat k),(Q_ "found",L1),(Q_ "above",AV.nat i)] [AObj.tree t,AObj.dss (List.foldl scStep f ps),AObj.ixs R,AObj.ixs w.ns] k_1 0 [(Q_ "tree",L0),(Q_ "element",AV.nat k),(Q_ "found",L1),(Q_ "above",AV.nat i)] [AObj.tree t,AObj.dss f,AObj.ixs R,AObj.ixs w.ns]) (.c (VIn.loc (Nat.le_of_ble_eq_true rfl):SrcIn (fun i=>i<4) (Src.lst L3)) .n)))
theorem sc_loop {t:List Row} {es:List El} {k:Nat} (tv:TV t es) (fw:Few es) (hk:k≤es.length):
  ∃ kk,LoR g (n+3) (fun i=>i<3) (scF 178) (forT (stF 178 [] 1)) (ssF 178 [1]) (.lst L2) .next (Z10 k) [.tree t,.dss (scopeN es (k+1)),.ixs (List.range (k+1))] kk 0 (Z10 k) [.tree t,.dss (scopeN es 0),.ixs (List.range (k+1))]:=by
 refine LoR.all (fun _=>(Z10 k)) (fun j=>[.tree t,.dss (scopeN es j),.ixs (List.range (k+1))]) (j:=k+1) (fun j hj=>?_) ?_
 ·obtain ⟨w,h1,h2⟩:=tv.node (i:=j) (Nat.le_trans (Nat.le_of_lt_succ hj) hk)
  refine ⟨.nat j,_,by rw [srcAt_ixs rfl,List.getElem?_range hj];rfl,.nm (k:=Q_ "above") (by kernel_rfl),sc_outer G n h1 h2 ?_⟩
  have z1:=scopeN_len fw j
  have z2:=nodePs_len fw j
  have z3:=fw.1
  omega
 ·rw [srcAt_ixs rfl,List.getElem?_eq_none_iff.mpr (by rw [List.length_range];exact Nat.le_refl _)];rfl
theorem scope_cr {t:List Row} {es:List El} {k:Nat} (tv:TV t es) (fw:Few es) (hk:k≤es.length):CR g (n+5) 178 [L0,.nat k] [.tree t] L1 ([.tree t,.dss (scopeN es (k+1))]):=
 .gz G [.call [0] L1 [.tree t,.ixs (List.range (k+1))],.loop .next (Z10 k) [.tree t,.dss (scopeN es (k+1)),.ixs (List.range (k+1))],.gc [0,1] ["found"]] (.c (lines_cr G n (tv.line hk) (by have:=fw.1;omega)) (.c (sc_loop G (n+1) tv fw hk) (.c (VIn.loc (Nat.le_of_ble_eq_true rfl):SrcIn (fun i=>i<3) (Src.lst L2)) .n)))
end
theorem attrOf_none {l u:Str} {ats:List (Str×Str×Str)}:attrOf l u ats=none→∀ p∈ats,(strB p.1 l&&strB p.2.1 u)=false:=by
 induction ats with
|nil=>exact fun _ _ h=>nomatch h
|cons q r ih=>
  intro h p hp
  rw [attrOf] at h
  cases z:strB q.1 l&&strB q.2.1 u with
 |true=>rw [z] at h;cases h
 |false=>
   rw [z] at h
   exact (List.mem_cons.mp hp).elim (fun e=>e▸z) (ih h p)
theorem attrOf_some {l u v:Str} {ats:List (Str×Str×Str)}:attrOf l u ats=some v→∃ (j:Nat) (p:Str×Str×Str),ats[j]?=some p∧(strB p.1 l&&strB p.2.1 u)=true∧p.2.2=v∧∀ i q,i<j→ats[i]?=some q→(strB q.1 l&&strB q.2.1 u)=false:=by
 induction ats with
|nil=>exact fun h=>nomatch h
|cons q r ih=>
  intro h
  rw [attrOf] at h
  cases z:strB q.1 l&&strB q.2.1 u with
 |true=>
   rw [z] at h
   exact ⟨0,q,rfl,z,Option.some.inj h,fun i _ hi=>absurd hi (Nat.not_lt_zero i)⟩
 |false=>
   rw [z] at h
   obtain ⟨j,p,h1,h2,h3,h4⟩:=ih h
   refine ⟨j+1,p,h1,h2,h3,fun i q' hi e=>?_⟩
   cases i with
  |zero=>rw [← Option.some.inj e];exact z
  |succ i=>exact h4 i q' (Nat.lt_of_succ_lt_succ hi) e
noncomputable abbrev Z11 (a:Nat) (b c:Str):Vars:=[("tree",L0),("element",.nat a),("local",.str b),("uri",.str c)]
section
variable {g:Cx} (G:Gl g TT) (n:Nat)
include G
theorem at_no1 {t:List Row} {i j:Nat} {l u:Str} {r:Row} {M:List Nat} (h:t[j]?=some r) (h1:strB r.loc l=false):SsR g (n+3) (fun i=>i<2) (scF 186) (setL "node" (.nat j) (Z11 i l u)) (ssF 186 [0]) [.tree t,.ixs M] .next ((Z11 i l u)) ([.tree t,.ixs M]):=
 .gz G [.call [0] (.str r.loc) [.tree t],.b false,.gc [0,1] ["tree","element","local","uri"]] (.c (local_cr G n h) (.c h1 .n))
theorem at_no2 {t:List Row} {i j:Nat} {l u:Str} {r:Row} {M:List Nat} (h:t[j]?=some r) (h1:strB r.loc l=true) (h2:strB r.uri u=false):SsR g (n+3) (fun i=>i<2) (scF 186) (setL "node" (.nat j) (Z11 i l u)) (ssF 186 [0]) [.tree t,.ixs M] .next ((Z11 i l u)) ([.tree t,.ixs M]):=
 .gz G [.call [0] (.str r.loc) [.tree t],.b true,.call [0] (.str r.uri) [.tree t],.b false,.gc [0,1] ["tree","element","local","uri"]] (.c (local_cr G n h) (.c h1 (.c (uri_cr G n h) (.c h2 .n))))
theorem at_yes {t:List Row} {i j:Nat} {l u:Str} {r:Row} {M:List Nat} (h:t[j]?=some r) (h1:strB r.loc l=true) (h2:strB r.uri u=true):SsR g (n+3) (fun i=>i<2) (scF 186) (setL "node" (.nat j) (Z11 i l u)) (ssF 186 [0]) [.tree t,.ixs M] (Fl.ret (.str r.value)) ([("tree",L0),("element",.nat i),("local",.str l),("uri",.str u),("node",.nat j)]) ([.tree t,.ixs M]):=
 .gz G [.call [0] (.str r.loc) [.tree t],.b true,.call [0] (.str r.uri) [.tree t],.b true,.call [0] (.str r.value) [.tree t]] (.c (local_cr G n h) (.c h1 (.c (uri_cr G n h) (.c h2 (.c (value_cr G n h) .n)))))
theorem at_no {t:List Row} {i j:Nat} {l u:Str} {r:Row} {M:List Nat} (h:t[j]?=some r) (h1:(strB r.loc l&&strB r.uri u)=false):SsR g (n+3) (fun i=>i<2) (scF 186) (setL "node" (.nat j) (Z11 i l u)) (ssF 186 [0]) [.tree t,.ixs M] .next (Z11 i l u) [.tree t,.ixs M]:=by
 cases z:strB r.loc l with
|false=>exact at_no1 G n h z
|true=>rw [z,Bool.true_and] at h1;exact at_no2 G n h z h1
theorem at_loop0 {t:List Row} {i own:Nat} {l u:Str} {M:List Nat} {ats:List (Str×Str×Str)} (H:AtOk t own M ats) (h:∀ p∈ats,(strB p.1 l&&strB p.2.1 u)=false):
  ∃ kk,LoR g (n+3) (fun i=>i<2) (scF 186) (forT (stF 186 [] 0)) (ssF 186 [0]) (.lst L1) .next (Z11 i l u) [.tree t,.ixs M] kk 0 (Z11 i l u) [.tree t,.ixs M]:=
 LoR.same (listOf_of (o:=.ixs M) rfl rfl) fun j hj=>by
  obtain ⟨q,hq⟩:=List.getElem?_of_mem hj
  obtain ⟨w,p,h1,h2,h3,h4,_⟩:=H.2.2 q j hq
  exact ⟨_,.nm (k:=Q_ "node") (by kernel_rfl),at_no G n h1 (by rw [h3,h4];exact h p (List.mem_of_getElem? h2))⟩
theorem at_loop1 {t:List Row} {i own j y:Nat} {l u:Str} {M:List Nat} {ats:List (Str×Str×Str)} {p:Str×Str×Str} (H:AtOk t own M ats) (hy:M[j]?=some y) (hj:ats[j]?=some p) (hp:(strB p.1 l&&strB p.2.1 u)=true) (h:∀ i q,i<j→ats[i]?=some q→(strB q.1 l&&strB q.2.1 u)=false):
  ∃ kk,LoR g (n+3) (fun i=>i<2) (scF 186) (forT (stF 186 [] 0)) (ssF 186 [0]) (.lst L1) (.ret (.str p.2.2)) (setL "node" (.nat y) (Z11 i l u)) [.tree t,.ixs M] kk 0 (Z11 i l u) [.tree t,.ixs M]:=by
 refine LoR.steps (fun _=>(Z11 i l u)) (fun _=>[.tree t,.ixs M]) (j:=j) (fun a ha=>?_) (.ret rfl ((srcAt_ixs rfl).trans (by rw [hy];rfl)) (.nm (k:=Q_ "node") (by kernel_rfl)) ?_)
 ·have hM:a<M.length:=Nat.lt_trans ha (List.getElem?_eq_some_iff.mp hy).1
  obtain ⟨w,q,h1,h2,h3,h4,_⟩:=H.2.2 a M[a] (List.getElem?_eq_getElem hM)
  exact ⟨.nat M[a],_,by rw [srcAt_ixs rfl,List.getElem?_eq_getElem hM];rfl,.nm (k:=Q_ "node") (by kernel_rfl),at_no G n h1 (by rw [h3,h4];exact h a q ha h2)⟩
 ·obtain ⟨w,q,h1,h2,h3,h4,h5,_⟩:=H.2.2 j y hy
  obtain rfl:=Option.some.inj (hj.symm.trans h2)
  rw [Bool.and_eq_true,← h3,← h4] at hp
  rw [← h5]
  exact at_yes G n h1 hp.1 hp.2
theorem attr0_cr {t:List Row} {i own:Nat} {l u:Str} {w:Row} {ats:List (Str×Str×Str)} (hw:t[i]?=some w) (H:AtOk t own w.at_ ats) (h:∀ p∈ats,(strB p.1 l&&strB p.2.1 u)=false):CR g (n+4) 186 [L0,.nat i,.str l,.str u] [.tree t] (.none) ([.tree t]):=
 .gz G [.call [0] L1 [.tree t,.ixs w.at_],.loop .next (Z11 i l u) [.tree t,.ixs w.at_],.s,.gc [0] []] (.c (atts_cr G n hw) (.c (at_loop0 G n H h:∃ k,LoR g (n+2+1) (fun i=>i<2) (scF 186) (forT (stF 186 [] 0)) (ssF 186 [0]) (Src.lst L1) Fl.next [(Q_ "tree",L0),(Q_ "element",AV.nat i),(Q_ "local",AV.str l),(Q_ "uri",AV.str u)] [AObj.tree t,AObj.ixs w.at_] k 0 [(Q_ "tree",L0),(Q_ "element",AV.nat i),(Q_ "local",AV.str l),(Q_ "uri",AV.str u)] [AObj.tree t,AObj.ixs w.at_]) (.c (VIn.loc (Nat.le_of_ble_eq_true rfl):SrcIn (fun i=>i<2) (Src.lst L1)) .n)))
theorem attr1_cr {t:List Row} {i own:Nat} {l u:Str} {w:Row} {ats:List (Str×Str×Str)} (hw:t[i]?=some w) (H:AtOk t own w.at_ ats) {j y:Nat} {p:Str×Str×Str} (hy:w.at_[j]?=some y) (hj:ats[j]?=some p) (hp:(strB p.1 l&&strB p.2.1 u)=true) (h:∀ i q,i<j→ats[i]?=some q→(strB q.1 l&&strB q.2.1 u)=false):CR g (n+4) 186 [L0,.nat i,.str l,.str u] [.tree t] (.str p.snd.snd) ([.tree t]):=
 .gz G [.call [0] L1 [.tree t,.ixs w.at_],.loop (Fl.ret (.str p.snd.snd)) [("tree",L0),("element",.nat i),("local",.str l),("uri",.str u),("node",.nat y)] [.tree t,.ixs w.at_],.gc [0] []] (.c (atts_cr G n hw) (.c (at_loop1 G n H hy hj hp h:∃ k,LoR g (n+2+1) (fun i=>i<2) (scF 186) (forT (stF 186 [] 0)) (ssF 186 [0]) (Src.lst L1) (Fl.ret (AV.str p.snd.snd)) [(Q_ "tree",L0),(Q_ "element",AV.nat i),(Q_ "local",AV.str l),(Q_ "uri",AV.str u),(Q_ "node",AV.nat y)] [AObj.tree t,AObj.ixs w.at_] k 0 [(Q_ "tree",L0),(Q_ "element",AV.nat i),(Q_ "local",AV.str l),(Q_ "uri",AV.str u)] [AObj.tree t,AObj.ixs w.at_]) (.c (VIn.loc (Nat.le_of_ble_eq_true rfl):SrcIn (fun i=>i<2) (Src.lst L1)) .n)))
theorem attr_cr {t:List Row} {i own:Nat} {l u:Str} {w:Row} {ats:List (Str×Str×Str)} (hw:t[i]?=some w) (H:AtOk t own w.at_ ats):CR g (n+4) 186 [L0,.nat i,.str l,.str u] [.tree t] (optS (attrOf l u ats)) [.tree t]:=by
 cases e:attrOf l u ats with
|none=>exact attr0_cr G n hw H (attrOf_none e)
|some v=>
  obtain ⟨j,p,h1,h2,h3,h4⟩:=attrOf_some e
  have hj:j<w.at_.length:=by rw [H.1];exact (List.getElem?_eq_some_iff.mp h1).1
  rw [← h3]
  exact attr1_cr G n hw H (List.getElem?_eq_getElem hj) h1 h2 h4
end
theorem len_of {s:Str} {i:Nat} (h:i=s.cps.toList.length):(Int.ofNat i==Int.ofNat s.cps.toList.length)=true:=by rw [h];exact beq_self_eq_true _
theorem len_no {s:Str} {i c:Nat} (h:s.cps.toList[i]?=some c):(Int.ofNat i==Int.ofNat s.cps.toList.length)=false:=beq_eq_false_iff_ne.mpr fun z=>Nat.lt_irrefl _ ((Int.ofNat.inj z)▸(List.getElem?_eq_some_iff.mp h).1)
noncomputable abbrev Z1y (a:Str) (b:Nat):Vars:=[("text",.str a),("found",L0),("begin",.nat b)]
noncomputable abbrev Z2g (a:Str) (b:Nat):Vars:=[("text",.str a),("found",L0),("begin",.nat (b+1))]
noncomputable abbrev Z38:List Str:=["text","found","begin"]
section
variable {g:Cx} (G:Gl g TT) (n:Nat)
include G
theorem isspT {c:Nat} (h:subB ⟨#[c]⟩ ⟨#[32,9,10,13]⟩=true):CR g (n+2) 108 [.str ⟨#[c]⟩] [] (.bool (isSp c)) (([]:Hp)):=
 .gy G [.b true] (.c h .n) ⟨(by unfold isSp;rw [h];rfl:AV.val (Value.bool true)=.bool (isSp c)),rfl⟩
theorem isspF {c:Nat} (h:subB ⟨#[c]⟩ ⟨#[32,9,10,13]⟩=false):CR g (n+2) 108 [.str ⟨#[c]⟩] [] (.bool (isSp c)) (([]:Hp)):=
 .gy G [.b false] (.c h .n) ⟨(by unfold isSp;rw [h];rfl:AV.val (Value.bool (subB (Str.mk #[c]) (Str.mk #[32,9,10,13])))=.bool (isSp c)),rfl⟩
theorem issp_cr {c:Nat}:CR g (n+2) 108 [.str ⟨#[c]⟩] [] (.bool (isSp c)) []:=by
 cases h:subB ⟨#[c]⟩ ⟨#[32,9,10,13]⟩ with
|true=>exact isspT G n h
|false=>exact isspF G n h
theorem sp_ea {s:Str} {i b:Nat} {F:List Str} (he:i=s.cps.toList.length) (hb:b<i) (hi:i≤s.cps.toList.length) (hF:Nat.blt F.length cap=true):SsR g (n+2) (fun i=>i<1) (scF 164) (setL "place" (.nat i) (Z1y s b)) (ssF 164 [1]) [.txs F] .next ((Z2g s i)) ([.txs (F++[subst s b i])]):=
 .gz G [.b true,.s,.b true,.s,.o,.o,.o,.s,.s,.gc [0] Z38] (.c (len_of he) (.c (decide_eq_true (Int.ofNat_lt.mpr hb)) (.c (Nat.ble_eq_true_of_le (Nat.le_of_lt hb)) (.c (Nat.ble_eq_true_of_le hi) (.c hF .n)))))
theorem sp_en {s:Str} {i b:Nat} {F:List Str} (he:i=s.cps.toList.length) (hb:¬ b<i):SsR g (n+2) (fun i=>i<1) (scF 164) (setL "place" (.nat i) (Z1y s b)) (ssF 164 [1]) [.txs F] .next ((Z2g s i)) ([.txs F]):=
 .gz G [.b true,.s,.b false,.s,.s,.gc [0] Z38] (.c (len_of he) (.c (decide_eq_false fun z=>hb (Int.ofNat_lt.mp z)) .n))
theorem sp_sa {s:Str} {i b:Nat} {F:List Str} {c:Nat} (hc:s.cps.toList[i]?=some c) (hs:isSp c=true) (hb:b<i) (hi:i≤s.cps.toList.length) (hF:Nat.blt F.length cap=true):SsR g (n+2) (fun i=>i<1) (scF 164) (setL "place" (.nat i) (Z1y s b)) (ssF 164 [1]) [.txs F] .next ((Z2g s i)) ([.txs (F++[subst s b i])]):=
 .gz G [.b false,.k c,.call [] (.val (Value.bool (isSp c))) [],.b true,.s,.b true,.s,.o,.o,.o,.s,.s,.gc [0] Z38] (.c (len_no hc) (.c hc (.c (issp_cr G n:CR g (n+1+1) 108 [.str (Str.mk #[c])] [] (.val (Value.bool (isSp c))) []) (.c hs (.c (decide_eq_true (Int.ofNat_lt.mpr hb)) (.c (Nat.ble_eq_true_of_le (Nat.le_of_lt hb)) (.c (Nat.ble_eq_true_of_le hi) (.c hF .n))))))))
theorem sp_sn {s:Str} {i b:Nat} {F:List Str} {c:Nat} (hc:s.cps.toList[i]?=some c) (hs:isSp c=true) (hb:¬ b<i):SsR g (n+2) (fun i=>i<1) (scF 164) (setL "place" (.nat i) (Z1y s b)) (ssF 164 [1]) [.txs F] .next ((Z2g s i)) ([.txs F]):=
 .gz G [.b false,.k c,.call [] (.val (Value.bool (isSp c))) [],.b true,.s,.b false,.s,.s,.gc [0] Z38] (.c (len_no hc) (.c hc (.c (issp_cr G n:CR g (n+1+1) 108 [.str (Str.mk #[c])] [] (.val (Value.bool (isSp c))) []) (.c hs (.c (decide_eq_false fun z=>hb (Int.ofNat_lt.mp z)) .n)))))
theorem sp_no {s:Str} {i b:Nat} {F:List Str} {c:Nat} (hc:s.cps.toList[i]?=some c) (hs:isSp c=false):SsR g (n+2) (fun i=>i<1) (scF 164) (setL "place" (.nat i) (Z1y s b)) (ssF 164 [1]) [.txs F] .next ((Z1y s b)) ([.txs F]):=
 .gz G [.b false,.k c,.call [] (.val (Value.bool (isSp c))) [],.b false,.s,.gc [0] Z38] (.c (len_no hc) (.c hc (.c (issp_cr G n:CR g (n+1+1) 108 [.str (Str.mk #[c])] [] (.val (Value.bool (isSp c))) []) (.c hs .n))))
theorem sp_turn {s:Str} {i:Nat} (hi:i≤s.cps.toList.length) (hl:s.cps.toList.length<1000):SsR g (n+2) (fun i=>i<1) (scF 164) (setL "place" (.nat i) [("text",.str s),("found",L0),("begin",.nat (splN s i).2)]) (ssF 164 [1]) [.txs (splN s i).1] .next [("text",.str s),("found",L0),("begin",.nat (splN s (i+1)).2)] [.txs (splN s (i+1)).1]:=by
 have hc:Nat.blt (splN s i).1.length cap=true:=Nat.ble_eq_true_of_le (Nat.le_trans (Nat.succ_le_succ (splN_le s i).2) (Nat.le_trans (Nat.succ_le_succ hi) (Nat.le_trans hl (Nat.le_of_ble_eq_true rfl))))
 have sp:∀ o,s.cps.toList[i]?=o→splN s (i+1)=bif (o.map isSp).getD true then (bif Nat.blt (splN s i).2 i then (splN s i).1++[subst s (splN s i).2 i] else (splN s i).1,i+1) else splN s i:=fun o e=>by subst e;rfl
 have bt:∀ {b:Nat},b<i→Nat.blt b i=true:=fun h=>Nat.ble_eq_true_of_le h
 have bf:∀ {b:Nat},¬ b<i→Nat.blt b i=false:=fun h=>Bool.eq_false_iff.mpr fun z=>h (Nat.le_of_ble_eq_true z)
 cases e:s.cps.toList[i]? with
|none=>
  rw [sp none e]
  have he:i=s.cps.toList.length:=Nat.le_antisymm hi (List.getElem?_eq_none_iff.mp e)
  by_cases hb:(splN s i).2<i
  ·rw [bt hb];exact sp_ea G n he hb hi hc
  ·rw [bf hb];exact sp_en G n he hb
|some c=>
  rw [sp (some c) e]
  cases hs:isSp c with
 |true=>
   rw [show ((some c).map isSp).getD true=true from hs]
   by_cases hb:(splN s i).2<i
   ·rw [bt hb];exact sp_sa G n e hs hb hi hc
   ·rw [bf hb];exact sp_sn G n e hs hb
 |false=>
   rw [show ((some c).map isSp).getD true=false from hs]
   exact sp_no G n e hs
theorem sp_loop {s:Str} (hl:s.cps.toList.length<1000):∃ kk,LoR g (n+2) (fun i=>i<1) (scF 164) (forT (stF 164 [] 1)) (ssF 164 [1]) (.rng 0 (s.cps.toList.length+1)) .next [("text",.str s),("found",L0),("begin",.nat (splN s (s.cps.toList.length+1)).2)] [.txs (spl s)] kk 0 [("text",.str s),("found",L0),("begin",.nat 0)] [.txs []]:=by
 refine LoR.all (fun i=>[("text",.str s),("found",L0),("begin",.nat (splN s i).2)]) (fun i=>[.txs (splN s i).1]) (j:=s.cps.toList.length+1) (fun i hi=>⟨.nat i,_,?_,.nm (k:=Q_ "place") (by kernel_rfl),sp_turn G n (Nat.le_of_lt_succ hi) hl⟩) ?_
 ·rw [srcAt,show Nat.blt i (s.cps.toList.length+1)=true from Nat.ble_eq_true_of_le hi,Nat.zero_add];rfl
 ·rw [srcAt,show Nat.blt (s.cps.toList.length+1) (s.cps.toList.length+1)=false from Bool.eq_false_iff.mpr fun z=>Nat.lt_irrefl _ (Nat.le_of_ble_eq_true z)];rfl
theorem spl_cr {s:Str} (hl:s.cps.toList.length<1000):CR g (n+3) 164 [.str s] [] L0 ([.txs (splN s (s.cps.toList.length+1)).fst]):=
 .gz G [.k 1,.o,.loop .next [("text",.str s),("found",L0),("begin",.int (Int.ofNat (splN s (s.cps.toList.length+1)).snd))] [.txs (splN s (s.cps.toList.length+1)).fst]] (.c (Nat.ble_eq_true_of_le (Nat.le_trans hl (Nat.le_of_ble_eq_true rfl)):(s.cps.toList.length+1).ble 1000000=true) (.c (sp_loop G n hl) (.c trivial .n)))
end
theorem ex_cap1 {x:Str} (h:x.cps.toList.length≤200):Nat.ble (x.length+(Q_ " ").length) cap=true:=by
 have e:(Q_ " ").length=1:=by decide +kernel
 rw [len_cps,e]
 exact Nat.ble_eq_true_of_le (Nat.le_trans (Nat.succ_le_succ h) (Nat.le_of_ble_eq_true rfl))
theorem ex_len {x y:Str} (h1:x.cps.toList.length≤200) (h2:y.cps.toList.length≤200):(x++Q_ " "++y).cps.toList.length<1000:=by
 rw [← len_cps,Str.length_append,Str.length_append,len_cps,len_cps,len_cps]
 have:(Q_ " ").cps.toList.length=1:=by decide +kernel
 omega
theorem ex_cap2 {x y:Str} (h1:x.cps.toList.length≤200) (h2:y.cps.toList.length≤200):Nat.ble ((x++Q_ " ").length+y.length) cap=true:=by
 have:=ex_len h1 h2
 rw [← len_cps,Str.length_append] at this
 exact Nat.ble_eq_true_of_le (Nat.le_trans (Nat.le_of_lt this) (Nat.le_of_ble_eq_true rfl))
theorem strT_no {x:Str} (h:strT x=false):x=Q_ "":=strB_iff.mp ((Bool.not_eq_false' (b:=strB x "")).mp h)
noncomputable abbrev Z15 (a:Nat) (b:Str):Vars:=[("tree",L0),("element",.nat a),("found",L1),("scope",L3),("names",.str b)]
noncomputable abbrev Z1h:List Nat:=[0,1,2,3,4]
noncomputable abbrev Z2f:List Str:=["tree","element","found","scope","names"]
noncomputable abbrev Z1e (a:List Row) (b:List Str) (c:List Nat) (d:List El) (e:Nat):Hp:=[.tree a,.txs b,.ixs c,.dss (scopeN d (e+2))]
section
variable {g:Cx} (G:Gl g TT) (n:Nat)
include G
theorem ex_or1 {t:List Row} {i k own:Nat} {u:Str} {F:List Str} {R:List Nat} {sc:SS} {w:Row} {ats:List (Str×Str×Str)} (hw:t[i]?=some w) (H:AtOk t own w.at_ ats):EvR g (n+4) (scF 193) [("tree",L0),("element",.nat k),("found",L1),("above",.nat i),("uri",.str u),("scope",L3)] (exF 193 [1,0] 2 []) [.tree t,.txs F,.ixs R,.dss sc] (.str ((attrOf EXCS u ats).getD "")) [.tree t,.txs F,.ixs R,.dss sc]:=by
 have C:=attr_cr G n (l:=EXCS) (u:=u) hw H
 cases e:attrOf EXCS u ats with
|none=>
  rw [e] at C
  exact .gz G [.call [0] .none [.tree t],.c] (.c C .n)
|some x=>
  rw [e] at C
  cases h:strT x with
 |true=>exact .gz G [.call [0] (.str x) [.tree t],.b true] (.c C (.c h .n))
 |false=>
   have hx:=strT_no h
   subst hx
   exact .gz G [.call [0] (.str "") [.tree t],.c] (.c C .n)
theorem ex_or2 {t:List Row} {i k own:Nat} {u:Str} {F:List Str} {R:List Nat} {sc:SS} {w:Row} {ats:List (Str×Str×Str)} (hw:t[i]?=some w) (H:AtOk t own w.at_ ats) {nm:Str}:EvR g (n+4) (scF 193) [("tree",L0),("element",.nat k),("found",L1),("above",.nat i),("uri",.str u),("scope",L3),("names",.str nm)] (exF 193 [1,0] 3 [1]) [.tree t,.txs F,.ixs R,.dss sc] (.str ((attrOf EXTS u ats).getD "")) [.tree t,.txs F,.ixs R,.dss sc]:=by
 have C:=attr_cr G n (l:=EXTS) (u:=u) hw H
 cases e:attrOf EXTS u ats with
|none=>
  rw [e] at C
  exact .gz G [.call [0] .none [.tree t],.c] (.c C .n)
|some x=>
  rw [e] at C
  cases h:strT x with
 |true=>exact .gz G [.call [0] (.str x) [.tree t],.b true] (.c C (.c h .n))
 |false=>
   have hx:=strT_no h
   subst hx
   exact .gz G [.call [0] (.str "") [.tree t],.c] (.c C .n)
theorem ex_t {t:List Row} {k:Nat} {F W:List Str} {R:List Nat} {sc:SS} {x q nm:Str} (hd:strB x (Q_ "#default")=true) (hq:look "" sc=some q) (hF:Nat.blt F.length cap=true):SsR g (n+2) (fun i=>i<5) (scF 193) (setL "prefix" (.str x) (Z15 k nm)) (ssF 193 [1,0,4]) [.tree t,.txs F,.ixs R,.dss sc,.txs W] .next ((Z15 k nm)) ([.tree t,.txs (F++[q]),.ixs R,.dss sc,.txs W]):=
 .gz G [.b true,.b false,.v (.str q),.o,.gc Z1h Z2f] (.c hd (.c ((by rw [hq];rfl):(!(look (Q_ "") sc).isSome)=false) (.c hq (.c hF .n))))
theorem ex_f {t:List Row} {k:Nat} {F W:List Str} {R:List Nat} {sc:SS} {x q nm:Str} (hd:strB x (Q_ "#default")=false) (hq:look x sc=some q) (hF:Nat.blt F.length cap=true):SsR g (n+2) (fun i=>i<5) (scF 193) (setL "prefix" (.str x) (Z15 k nm)) (ssF 193 [1,0,4]) [.tree t,.txs F,.ixs R,.dss sc,.txs W] .next ((Z15 k nm)) ([.tree t,.txs (F++[q]),.ixs R,.dss sc,.txs W]):=
 .gz G [.b false,.b false,.v (.str q),.o,.gc Z1h Z2f] (.c hd (.c ((by rw [hq];rfl):(!(look x sc).isSome)=false) (.c hq (.c hF .n))))
omit G in
theorem goneF_of {sc:SS} {x:Str} (h:(look (dflt x) sc).isSome=true):look (dflt x) sc=some (goneF sc x):=by
 unfold goneF
 cases e:look (dflt x) sc with
|none=>rw [e] at h;cases h
|some q=>rfl
theorem ex_turn {t:List Row} {k:Nat} {F W:List Str} {R:List Nat} {sc:SS} {x nm:Str} (hq:(look (dflt x) sc).isSome=true) (hF:Nat.blt F.length cap=true):SsR g (n+2) (fun i=>i<5) (scF 193) (setL "prefix" (.str x) (Z15 k nm)) (ssF 193 [1,0,4]) [.tree t,.txs F,.ixs R,.dss sc,.txs W] .next (Z15 k nm) [.tree t,.txs (F++[goneF sc x]),.ixs R,.dss sc,.txs W]:=by
 have h:=goneF_of hq
 cases hd:strB x "#default" with
|true=>exact ex_t G n hd (by unfold dflt at h;rw [hd] at h;exact h) hF
|false=>exact ex_f G n hd (by unfold dflt at h;rw [hd] at h;exact h) hF
omit G in
theorem srcAt_txs {a:Hp} {m i:Nat} {l:List Str} (e:a[m]?=some (.txs l)):srcAt a i (.lst (.loc m .root))=some ((l[i]?).map .str):=by
 rw [srcAt_lst (listOf_of e rfl),strsAV,List.getElem?_map]
theorem ex_inner {t:List Row} {k:Nat} {F W:List Str} {R:List Nat} {sc:SS} {nm:Str} (hq:∀ x∈W,(look (dflt x) sc).isSome=true) (hF:F.length+W.length<100000):
  ∃ kk,LoR g (n+2) (fun i=>i<5) (scF 193) (forT (stF 193 [1,0] 4)) (ssF 193 [1,0,4]) (.lst L4) .next (Z15 k nm) [.tree t,.txs (F++W.map (goneF sc)),.ixs R,.dss sc,.txs W] kk 0 (Z15 k nm) [.tree t,.txs F,.ixs R,.dss sc,.txs W]:=by
 have L:=LoR.all (g:=g) (n:=n+2) (D:=fun i=>i<5) (sc:=scF 193) (tgt:=forT (stF 193 [1,0] 4)) (body:=ssF 193 [1,0,4]) (src:=.lst L4) (fun _=>(Z15 k nm)) (fun j=>[.tree t,.txs (F++(W.take j).map (goneF sc)),.ixs R,.dss sc,.txs W]) (j:=W.length) (fun j hj=>?_) ?_
 ·rw [List.take_length] at L
  rw [show F=F++(W.take 0).map (goneF sc) from (List.append_nil F).symm] 
  rw [show (F++(W.take 0).map (goneF sc))++W.map (goneF sc)=F++W.map (goneF sc) by rw [show (W.take 0).map (goneF sc)=[] from rfl,List.append_nil]]
  exact L
 ·refine ⟨.str W[j],_,by rw [srcAt_txs rfl,List.getElem?_eq_getElem hj];rfl,.nm (k:=Q_ "prefix") (by kernel_rfl),?_⟩
  rw [List.take_succ_eq_append_getElem hj,List.map_append,← List.append_assoc]
  refine ex_turn G n (hq _ (List.getElem_mem hj)) (Nat.ble_eq_true_of_le ?_)
  rw [List.length_append,List.length_map,List.length_take]
  show _≤1000000
  omega
 ·rw [srcAt_txs rfl,List.getElem?_eq_none_iff.mpr (Nat.le_refl _)];rfl
theorem ex_elT {t:List Row} {es:List El} {i k:Nat} {F:List Str} {R:List Nat} {w:Row} {ats:List (Str×Str×Str)} (tv:TV t es) (fw:Few es) (hi:i+1≤es.length) (hw:t[i+1]?=some w) (hk:strB w.kind (Q_ "element")=true) (H:AtOk t (i+1) w.at_ ats) (hu:strB w.uri XSLTU=true) (h1:((attrOf EXCS "" ats).getD "").cps.toList.length≤200) (h2:((attrOf EXTS "" ats).getD "").cps.toList.length≤200) (hq:∀ x∈spl (((attrOf EXCS "" ats).getD "")++Q_ " "++((attrOf EXTS "" ats).getD "")),(look (dflt x) (scopeN es (i+2))).isSome=true) (hF:F.length+(spl (((attrOf EXCS "" ats).getD "")++Q_ " "++((attrOf EXTS "" ats).getD ""))).length<100000):SsR g (n+5) (fun i=>i<3) (scF 193) (setL "above" (.nat (i+1)) (Z10 k)) (ssF 193 [1]) [.tree t,.txs F,.ixs R] .next ((Z10 k)) ([.tree t,.txs (F++List.map (goneF (scopeN es (i+2))) (spl ((attrOf EXCS "" ats).getD ("")++Q_ " "++(attrOf EXTS "" ats).getD ""))),.ixs R]):=
 .gz G [.call [0] (.str w.kind) [.tree t],.b true,.call [0] (.str w.uri) [.tree t],.b true,.call [0] L1 [.tree t,.dss (scopeN es (i+2))],.exp (.str ((attrOf EXCS "" ats).getD "")) (Z1e t F R es i),.o,.exp (.str ((attrOf EXTS "" ats).getD "")) (Z1e t F R es i),.o,.gc [0,1,2,3] Z2f,.call [] L0 [.txs (spl ((attrOf EXCS "" ats).getD ("")++Q_ " "++(attrOf EXTS "" ats).getD ""))],.loop .next [("tree",L0),("element",.nat k),("found",L1),("scope",L3),("names",.str ((attrOf EXCS "" ats).getD ("")++Q_ " "++(attrOf EXTS "" ats).getD ""))] [.tree t,.txs (F++List.map (goneF (scopeN es (i+2))) (spl ((attrOf EXCS "" ats).getD ("")++Q_ " "++(attrOf EXTS "" ats).getD ""))),.ixs R,.dss (scopeN es (i+2)),.txs (spl ((attrOf EXCS "" ats).getD ("")++Q_ " "++(attrOf EXTS "" ats).getD ""))],.gc [0,1,2] Z3k] (.c (kind_cr G (n+2) hw) (.c hk (.c (uri_cr G (n+2) hw) (.c hu (.c (scope_cr G n tv fw hi) (.c (ex_or1 G (n+1) hw H:EvR g (n+4+1) (scF 193) [("tree",L0),("element",.nat k),("found",L1),("above",.nat (i+1)),("uri",.str ""),("scope",L3)] (exF 193 [1,0] 2 []) (Z1e t F R es i) (.str ((attrOf EXCS "" ats).getD "")) (Z1e t F R es i)) (.c (ex_cap1 h1) (.c (ex_or2 G (n+1) hw H:EvR g (n+4+1) (scF 193) [("tree",L0),("element",.nat k),("found",L1),("above",.nat (i+1)),("uri",.str ""),("scope",L3),("names",.str ((attrOf EXCS "" ats).getD ""))] (exF 193 [1,0] 3 [1]) (Z1e t F R es i) (.str ((attrOf EXTS "" ats).getD "")) (Z1e t F R es i)) (.c (ex_cap2 h1 h2) (.c (spl_cr G (n+2) (ex_len h1 h2)) (.c (ex_inner G (n+3) hq hF:∃ k_1,LoR g (n+4+1) (fun i=>i<5) (scF 193) (forT (stF 193 [1,0] 4)) (ssF 193 [1,0,4]) (Src.lst L4) Fl.next [(Q_ "tree",L0),(Q_ "element",AV.nat k),(Q_ "found",L1),(Q_ "scope",L3),(Q_ "names",AV.str ((attrOf EXCS (Q_ "") ats).getD (Q_ "")++Q_ " "++(attrOf EXTS (Q_ "") ats).getD (Q_ "")))] [AObj.tree t,AObj.txs (F++List.map (goneF (scopeN es (i+2))) (spl ((attrOf EXCS (Q_ "") ats).getD (Q_ "")++Q_ " "++(attrOf EXTS (Q_ "") ats).getD (Q_ "")))),AObj.ixs R,AObj.dss (scopeN es (i+2)),AObj.txs (spl ((attrOf EXCS (Q_ "") ats).getD (Q_ "")++Q_ " "++(attrOf EXTS (Q_ "") ats).getD (Q_ "")))] k_1 0 [(Q_ "tree",L0),(Q_ "element",AV.nat k),(Q_ "found",L1),(Q_ "scope",L3),(Q_ "names",AV.str ((attrOf EXCS (Q_ "") ats).getD (Q_ "")++Q_ " "++(attrOf EXTS (Q_ "") ats).getD (Q_ "")))] [AObj.tree t,AObj.txs F,AObj.ixs R,AObj.dss (scopeN es (i+2)),AObj.txs (spl ((attrOf EXCS (Q_ "") ats).getD (Q_ "")++Q_ " "++(attrOf EXTS (Q_ "") ats).getD (Q_ "")))]) (.c (VIn.loc (Nat.le_of_ble_eq_true rfl):SrcIn (fun i=>i<5) (Src.lst L4)) .n))))))))))))
theorem ex_elF {t:List Row} {es:List El} {i k:Nat} {F:List Str} {R:List Nat} {w:Row} {ats:List (Str×Str×Str)} (tv:TV t es) (fw:Few es) (hi:i+1≤es.length) (hw:t[i+1]?=some w) (hk:strB w.kind (Q_ "element")=true) (H:AtOk t (i+1) w.at_ ats) (hu:strB w.uri XSLTU=false) (h1:((attrOf EXCS XSLTU ats).getD "").cps.toList.length≤200) (h2:((attrOf EXTS XSLTU ats).getD "").cps.toList.length≤200) (hq:∀ x∈spl (((attrOf EXCS XSLTU ats).getD "")++Q_ " "++((attrOf EXTS XSLTU ats).getD "")),(look (dflt x) (scopeN es (i+2))).isSome=true) (hF:F.length+(spl (((attrOf EXCS XSLTU ats).getD "")++Q_ " "++((attrOf EXTS XSLTU ats).getD ""))).length<100000):SsR g (n+5) (fun i=>i<3) (scF 193) (setL "above" (.nat (i+1)) (Z10 k)) (ssF 193 [1]) [.tree t,.txs F,.ixs R] .next ((Z10 k)) ([.tree t,.txs (F++List.map (goneF (scopeN es (i+2))) (spl ((attrOf EXCS XSLTU ats).getD ("")++Q_ " "++(attrOf EXTS XSLTU ats).getD ""))),.ixs R]):=
 .gz G [.call [0] (.str w.kind) [.tree t],.b true,.call [0] (.str w.uri) [.tree t],.b false,.call [0] L1 [.tree t,.dss (scopeN es (i+2))],.exp (.str ((attrOf EXCS XSLTU ats).getD "")) (Z1e t F R es i),.o,.exp (.str ((attrOf EXTS XSLTU ats).getD "")) (Z1e t F R es i),.o,.gc [0,1,2,3] Z2f,.call [] L0 [.txs (spl ((attrOf EXCS XSLTU ats).getD ("")++Q_ " "++(attrOf EXTS XSLTU ats).getD ""))],.loop .next [("tree",L0),("element",.nat k),("found",L1),("scope",L3),("names",.str ((attrOf EXCS XSLTU ats).getD ("")++Q_ " "++(attrOf EXTS XSLTU ats).getD ""))] [.tree t,.txs (F++List.map (goneF (scopeN es (i+2))) (spl ((attrOf EXCS XSLTU ats).getD ("")++Q_ " "++(attrOf EXTS XSLTU ats).getD ""))),.ixs R,.dss (scopeN es (i+2)),.txs (spl ((attrOf EXCS XSLTU ats).getD ("")++Q_ " "++(attrOf EXTS XSLTU ats).getD ""))],.gc [0,1,2] Z3k] (.c (kind_cr G (n+2) hw) (.c hk (.c (uri_cr G (n+2) hw) (.c hu (.c (scope_cr G n tv fw hi) (.c (ex_or1 G (n+1) hw H:EvR g (n+4+1) (scF 193) [("tree",L0),("element",.nat k),("found",L1),("above",.nat (i+1)),("uri",.str "http://www.w3.org/1999/XSL/Transform"),("scope",L3)] (exF 193 [1,0] 2 []) (Z1e t F R es i) (.str ((attrOf EXCS XSLTU ats).getD "")) (Z1e t F R es i)) (.c (ex_cap1 h1) (.c (ex_or2 G (n+1) hw H:EvR g (n+4+1) (scF 193) [("tree",L0),("element",.nat k),("found",L1),("above",.nat (i+1)),("uri",.str "http://www.w3.org/1999/XSL/Transform"),("scope",L3),("names",.str ((attrOf EXCS XSLTU ats).getD ""))] (exF 193 [1,0] 3 [1]) (Z1e t F R es i) (.str ((attrOf EXTS XSLTU ats).getD "")) (Z1e t F R es i)) (.c (ex_cap2 h1 h2) (.c (spl_cr G (n+2) (ex_len h1 h2)) (.c (ex_inner G (n+3) hq hF:∃ k_1,LoR g (n+4+1) (fun i=>i<5) (scF 193) (forT (stF 193 [1,0] 4)) (ssF 193 [1,0,4]) (Src.lst L4) Fl.next [(Q_ "tree",L0),(Q_ "element",AV.nat k),(Q_ "found",L1),(Q_ "scope",L3),(Q_ "names",AV.str ((attrOf EXCS XSLTU ats).getD (Q_ "")++Q_ " "++(attrOf EXTS XSLTU ats).getD (Q_ "")))] [AObj.tree t,AObj.txs (F++List.map (goneF (scopeN es (i+2))) (spl ((attrOf EXCS XSLTU ats).getD (Q_ "")++Q_ " "++(attrOf EXTS XSLTU ats).getD (Q_ "")))),AObj.ixs R,AObj.dss (scopeN es (i+2)),AObj.txs (spl ((attrOf EXCS XSLTU ats).getD (Q_ "")++Q_ " "++(attrOf EXTS XSLTU ats).getD (Q_ "")))] k_1 0 [(Q_ "tree",L0),(Q_ "element",AV.nat k),(Q_ "found",L1),(Q_ "scope",L3),(Q_ "names",AV.str ((attrOf EXCS XSLTU ats).getD (Q_ "")++Q_ " "++(attrOf EXTS XSLTU ats).getD (Q_ "")))] [AObj.tree t,AObj.txs F,AObj.ixs R,AObj.dss (scopeN es (i+2)),AObj.txs (spl ((attrOf EXCS XSLTU ats).getD (Q_ "")++Q_ " "++(attrOf EXTS XSLTU ats).getD (Q_ "")))]) (.c (VIn.loc (Nat.le_of_ble_eq_true rfl):SrcIn (fun i=>i<5) (Src.lst L4)) .n))))))))))))
end
section
variable {g:Cx} (G:Gl g TT) (n:Nat)
include G
theorem ex_root {t:List Row} {k i:Nat} {F:List Str} {R:List Nat} {w:Row} (hw:t[i]?=some w) (hk:strB w.kind (Q_ "element")=false):SsR g (n+5) (fun i=>i<3) (scF 193) (setL "above" (.nat i) (Z10 k)) (ssF 193 [1]) [.tree t,.txs F,.ixs R] .next ((Z10 k)) ([.tree t,.txs F,.ixs R]):=
 .gz G [.call [0] (.str w.kind) [.tree t],.b false,.gc [0,1,2] Z3k] (.c (kind_cr G (n+2) hw) (.c hk .n))
theorem ex_step {t:List Row} {es:List El} {i k:Nat} {F:List Str} {R:List Nat} {e:El} (tv:TV t es) (fw:Few es) (he:es[i]?=some e) (wd:WdOk es i e) (hF:F.length+(spl (namesS e)).length<100000):
  SsR g (n+5) (fun i=>i<3) (scF 193) (setL "above" (.nat (i+1)) (Z10 k)) (ssF 193 [1]) [.tree t,.txs F,.ixs R] .next (Z10 k) [.tree t,.txs (F++(spl (namesS e)).map (goneF (scopeN es (i+2)))),.ixs R]:=by
 obtain ⟨w,hw,hk,_,hu,_,H⟩:=tv.el i e he
 have hi:i+1≤es.length:=(List.getElem?_eq_some_iff.mp he).1
 obtain ⟨⟨s1,s2⟩,hb⟩:=wd
 unfold excS at s1
 unfold extS at s2
 unfold namesS excS extS at hb hF ⊢
 cases z:strB e.uri XSLTU with
|true=>
  have eu:elU e.uri=Q_ "":=by unfold elU;rw [z];rfl
  rw [eu] at s1 s2 hb hF ⊢
  exact ex_elT G n tv fw hi hw (by rw [hk];exact strB_self _) H (by rw [hu];exact z) s1 s2 hb hF
|false=>
  have eu:elU e.uri=XSLTU:=by unfold elU;rw [z];rfl
  rw [eu] at s1 s2 hb hF ⊢
  exact ex_elF G n tv fw hi hw (by rw [hk];exact strB_self _) H (by rw [hu];exact z) s1 s2 hb hF
theorem ex_loop {t:List Row} {es:List El} {k:Nat} (tv:TV t es) (fw:Few es) (hk:k≤es.length) (wd:∀ i e,es[i]?=some e→i<k→WdOk es i e) (hg:(goneN es (k+1)).length≤1000):
  ∃ kk,LoR g (n+5) (fun i=>i<3) (scF 193) (forT (stF 193 [] 1)) (ssF 193 [1]) (.lst L2) .next (Z10 k) [.tree t,.txs (goneN es (k+1)),.ixs (List.range (k+1))] kk 0 (Z10 k) [.tree t,.txs (goneN es 0),.ixs (List.range (k+1))]:=by
 refine LoR.all (fun _=>(Z10 k)) (fun j=>[.tree t,.txs (goneN es j),.ixs (List.range (k+1))]) (j:=k+1) (fun j hj=>⟨.nat j,_,by rw [srcAt_ixs rfl,List.getElem?_range hj];rfl,.nm (k:=Q_ "above") (by kernel_rfl),?_⟩) ?_
 ·cases j with
 |zero=>
   obtain ⟨w,h1,h2,_⟩:=tv.root
   rw [show goneN es (0+1)=goneN es 0 from List.append_nil _]
   exact ex_root G n h1 (by rw [h2];rfl)
 |succ i=>
   have hi:i<es.length:=Nat.lt_of_lt_of_le (Nat.lt_of_succ_lt_succ hj) hk
   have he:=List.getElem?_eq_getElem hi
   have e:goneN es (i+1+1)=goneN es (i+1)++(spl (namesS es[i])).map (goneF (scopeN es (i+2))):=by
    show goneN es (i+1)++(es[i]?.map fun e=>(spl (namesS e)).map (goneF (scopeN es (i+2)))).getD []=_
    rw [he];rfl
   have hm:=goneN_mono es (i:=i+1+1) (j:=k+1) hj
   rw [e] at hm ⊢
   rw [List.length_append,List.length_map] at hm
   exact ex_step G n tv fw he (wd i _ he (Nat.lt_of_succ_lt_succ hj)) (by omega)
 ·rw [srcAt_ixs rfl,List.getElem?_eq_none_iff.mpr (by rw [List.length_range];exact Nat.le_refl _)];rfl
theorem exc_cr {t:List Row} {es:List El} {k:Nat} (tv:TV t es) (fw:Few es) (hk:k≤es.length) (wd:∀ i e,es[i]?=some e→i<k→WdOk es i e) (hg:(goneN es (k+1)).length≤1000):CR g (n+6) 193 [L0,.nat k] [.tree t] L1 ([.tree t,.txs (goneN es (k+1))]):=
 .gz G [.k 1,.call [0] L1 [.tree t,.ixs (List.range (k+1))],.loop .next (Z10 k) [.tree t,.txs (goneN es (k+1)),.ixs (List.range (k+1))],.gc [0,1] ["found"]] (.c (lines_cr G (n+1) (tv.line hk) (by have:=fw.1;omega)) (.c (ex_loop G n tv fw hk wd hg) (.c (VIn.loc (Nat.le_of_ble_eq_true rfl):SrcIn (fun i=>i<3) (Src.lst L2)) .n)))
end
noncomputable abbrev Z1a:Hp:=[.inst 668 [("outer",.none),("params",L1),("own",L2)],.dss [],.dss []]
noncomputable abbrev Z0g:Vars:=[("outer",.none),("params",L3),("own",L4),("work",L5),("result",.none)]
noncomputable abbrev Z0d:Vars:=[("outer",.none),("params",L6),("own",L7),("tree",L0),("scopes",L8),("sheet",L9)]
noncomputable abbrev Z0l:Vars:=[("outer",.none),("params",L10),("own",L11),("aliases",L1)]
noncomputable abbrev Z43 (r:Hp):Hp:=.inst 668 Z0g::.dss []::.dss []::.inst 668 Z0d::.dss []::.dss []::.dictI []::.inst 668 Z0l::.dss []::r
noncomputable abbrev Z09:Vars:=[("tree",L2),("root",.nat 0),("open",L4),("has_children",L5),("pending",L6)]
noncomputable abbrev Z40 (r:Hp):Hp:=.list [.nat 0,.nat 1]::.list [.bool true,.bool false]::.txs []::r
noncomputable abbrev Z0a:Vars:=[("outer",.none),("params",L8),("own",L9),("work",L10),("result",L3)]
noncomputable abbrev Z08:Vars:=[("outer",.none),("params",L11),("own",L12),("tree",L0),("scopes",L13),("sheet",L14)]
noncomputable abbrev Z44 (r:Hp):Hp:=.inst 668 Z0a::.dss []::.dss []::.inst 668 Z08::.dss []::.dss []::r
noncomputable abbrev Z0f:Vars:=[("outer",.none),("params",L15),("own",L16),("aliases",L1)]
noncomputable abbrev Z47 (r:Hp):Hp:=.inst 668 Z0f::.dss []::.dss []::r
noncomputable abbrev Z02 (a:List Row) (b:SS) (c:List Row):Hp:=(.tree a::.dss b::.tree c::.inst 365 Z09::Z40 (Z44 (.dictI []::Z47 [])))
section
variable {g:Cx} (G:Gl g TT) (n:Nat)
include G
theorem frame_cr :CR g (n+2) 595 [L0] [.inst 668 []] (.none) (Z1a):=
 .gz G [.c,.k 4,.k 4] .n
theorem state0_cr {t:List Row} {al:SS}:CR g (n+4) 730 [L0,L1,.none] [.tree t,.dss al] L2 ((.tree t::.dss al::Z43 [.dss []])):=
 .gz G [.call [2] (.none) Z1a,.k 0,.call [5] (.none) Z1a,.k 0,.k 5,.call [9] (.none) Z1a,.k 0] (.c (frame_cr G n) (.c (frame_cr G n) (.c (frame_cr G n) .n)))
theorem state1_cr {t m:List Row} {al:SS}:CR g (n+4) 730 [L0,L1,L3] (.tree t::.dss al::.tree m::.inst 365 Z09::Z40 []) L7 ((Z02 t al m)):=
 .gz G [.call [7] (.none) Z1a,.k 0,.call [10] (.none) Z1a,.k 0,.k 5,.call [14] (.none) Z1a,.k 0] (.c (frame_cr G n) (.c (frame_cr G n) (.c (frame_cr G n) .n)))
end
section
variable {g:Cx} (G:Gl g TT) (n:Nat)
include G
theorem alias0_cr {t:List Row} {al:SS} {u:Str}:CR g (n+2) 200 [L2,.str u] (.tree t::.dss al::Z43 [.dss []]) (.str ((look u al).getD u)) ((.tree t::.dss al::Z43 [.dss []])):=
 .gz G [] .n
theorem alias1_cr {t m:List Row} {al:SS} {u:Str}:CR g (n+2) 200 [L7,.str u] (Z02 t al m) (.str ((look u al).getD u)) ((Z02 t al m)):=
 .gz G [] .n
end
def SubV (b vs:Vars):Prop:=∀ x v,look x b=some v→look x vs=some v
noncomputable def cIf (e:Expr) (i:Nat):Expr:=(cGen e).ifs.getD i noE
section
variable {g:Cx} {n:Nat} {sc:Scope} {vs vs₂ base:Vars} {e tgt elt:Expr} {ifs:List Expr} {a a':Hp} {v x:AV} {xs:List AV} {k k':Str} {b:Bool} {β:Type} {l:List β}
theorem VR.sub {σ:St} {env:Env} (h:SubV vs vs₂) (V:VR g σ env vs₂):VR g σ env vs:=V.map (fun _ _ e z=>⟨e,z⟩) fun x v e=>⟨v,h x v e,fun _ r=>r⟩
theorem EvR.more (h:SubV vs vs₂) (H:EvR g n sc vs e a v a'):EvR g n sc vs₂ e a v a':=fun A env σ hR hE O V=>H A env σ hR hE O (V.sub h)
theorem TcR.more (h:SubV vs vs₂) (H:TcR g n sc vs ifs a b a'):TcR g n sc vs₂ ifs a b a':=fun A env σ hR hE O V=>H A env σ hR hE O (V.sub h)
theorem SubV.set (h:SubV vs vs₂):SubV (setL k x vs) (setL k x vs₂):=fun y w e=>by
 rw [look_setL] at e ⊢
 by_cases hy:y=k
 ·rw [if_pos hy] at e ⊢;exact e
 ·rw [if_neg hy] at e ⊢;exact h y w e
theorem SubV.new (hk:look k base=none) (h:SubV base vs):SubV base (setL k x vs):=fun y w e=>by
 rw [look_setL,if_neg fun z=>nomatch (z▸e).symm.trans hk];exact h y w e
theorem CoL.same (f:β→AV) (B:β→Vars) (out:β→Option AV) (hl:listOf a v=some (l.map f)) (hst:∀ x∈l,∀ vs,SubV base vs→∃ vs₁,AsC g n sc tgt (f x) vs vs₁∧SubV base vs₁∧SubV (B x) vs₁)
  (hno:∀ x∈l,out x=none→TcR g n sc (B x) ifs a false a) (hyes:∀ x∈l,∀ y,out x=some y→TcR g n sc (B x) ifs a true a∧EvR g n sc (B x) elt a y a):CoL g n sc tgt elt ifs (.lst v) a l.length 0 base a (l.filterMap out):=by
 have key:∀ (j i:Nat) (vs:Vars),SubV base vs→i+j=l.length→CoL g n sc tgt elt ifs (.lst v) a j i vs a ((l.drop i).filterMap out):=by
  intro j
  induction j with
 |zero=>
   intro i vs _ hi
   have hi:l.length≤i:=Nat.le_of_eq hi.symm
   rw [List.drop_eq_nil_of_le hi]
   exact .done ((srcAt_lst hl).trans (congrArg some (List.getElem?_eq_none_iff.mpr (by rw [List.length_map];exact hi))))
 |succ j ih=>
   intro i vs hs hi
   have hlt:i<l.length:=by omega
   have hm:=List.getElem_mem hlt
   have hsrc:srcAt a i (.lst v)=some (some (f l[i])):=(srcAt_lst hl).trans (congrArg some (by rw [List.getElem?_map,List.getElem?_eq_getElem hlt];rfl))
   obtain ⟨vs₁,h1,h2,h3⟩:=hst _ hm vs hs
   have L:=ih (i+1) vs₁ h2 (by omega)
   rw [List.drop_eq_getElem_cons hlt,List.filterMap_cons]
   cases e:out l[i] with
  |none=>exact .no hsrc h1 (TcR.more h3 (hno _ hm e)) L
  |some y=>exact have z:=hyes _ hm y e;.yes hsrc h1 (TcR.more h3 z.1) (EvR.more h3 z.2) L
 exact key l.length 0 base (fun _ _ e=>e) (Nat.zero_add _)
theorem CoL.same1 (f:β→AV) (out:β→Option AV) (ht:tgtC sc tgt k=true) (hk:look k base=none) (hl:listOf a v=some (l.map f))
  (hno:∀ x∈l,out x=none→TcR g n sc (setL k (f x) base) ifs a false a) (hyes:∀ x∈l,∀ y,out x=some y→TcR g n sc (setL k (f x) base) ifs a true a∧EvR g n sc (setL k (f x) base) elt a y a):CoL g n sc tgt elt ifs (.lst v) a l.length 0 base a (l.filterMap out):=
 .same f (fun x=>setL k (f x) base) out hl (fun x _ vs hs=>⟨_,.nm ht,hs.new hk,hs.set⟩) hno hyes
noncomputable def prAV (p:Str×Str):AV:=.tup [.str p.1,.str p.2]
theorem CoL.same2 {l:SS} (out:Str×Str→Option AV) (ht:tgtC2 sc tgt k k'=true) (hk:look k base=none) (hk':look k' base=none) (hl:listOf a v=some (prsAV l))
  (hno:∀ x∈l,out x=none→TcR g n sc (setL k' (.str x.2) (setL k (.str x.1) base)) ifs a false a) (hyes:∀ x∈l,∀ y,out x=some y→TcR g n sc (setL k' (.str x.2) (setL k (.str x.1) base)) ifs a true a∧EvR g n sc (setL k' (.str x.2) (setL k (.str x.1) base)) elt a y a):CoL g n sc tgt elt ifs (.lst v) a l.length 0 base a (l.filterMap out):=
 .same prAV (fun x=>setL k' (.str x.2) (setL k (.str x.1) base)) out hl (fun x _ vs hs=>⟨_,.nm2 ht,(hs.new hk).new hk',hs.set.set⟩) hno hyes
end
section
noncomputable def getS (x:Str) (l:SS):Str:=(look x l).getD (Str.ofString "")
theorem look_key {x:Str} {l:SS} (h:x∈l.map (·.1)):look x l=some (getS x l):=by
 unfold getS
 induction l with
|nil=>cases h
|cons p r ih=>
  rw [look]
  cases e:strB x p.1 with
 |true=>rfl
 |false=>
   refine ih ((List.mem_cons.mp h).resolve_left fun z=>?_)
   rw [z,strB_self] at e;cases e
theorem filterMap_bif {α β:Type} (c:α→Bool) (f:α→β) (l:List α):(l.filterMap fun x=>bif c x then none else some (f x))=(l.filter fun x=>!c x).map f:=by
 induction l with
|nil=>rfl
|cons x r ih=>
  rw [List.filterMap_cons,List.filter_cons,ih]
  cases c x<;>rfl
noncomputable def keysX (sc:SS):SS:=((sortS (sc.map (·.1))).filter fun p=>!strB p (Str.ofString "xml")).map fun p=>(p,getS p sc)
noncomputable def toldP (sc:SS) (gone:List Str) (als:SS):SS:=
 ((keysX sc).filter fun p=>!inB p.2 gone).map fun p=>(p.1,(look p.2 als).getD p.2)
noncomputable def outX (sc:SS) (p:Str):Option AV:=bif strB p (Str.ofString "xml") then none else some (prAV (p,getS p sc))
noncomputable def outG (gone:List Str) (als:SS) (p:Str×Str):Option AV:=bif inB p.2 gone then none else some (prAV (p.1,(look p.2 als).getD p.2))
theorem outX_eq (sc:SS) (K:List Str):K.filterMap (outX sc)=prsAV ((K.filter fun p=>!strB p (Str.ofString "xml")).map fun p=>(p,getS p sc)):=by
 rw [prsAV,List.map_map];exact filterMap_bif _ _ K
theorem outG_eq (gone:List Str) (als:SS) (K:SS):K.filterMap (outG gone als)=prsAV ((K.filter fun p=>!inB p.2 gone).map fun p=>(p.1,(look p.2 als).getD p.2)):=by
 rw [prsAV,List.map_map];exact filterMap_bif _ _ K
end
noncomputable abbrev Z01:Vars:=[("tree",L0),("root",.nat 0),("open",L2),("has_children",L3),("pending",L4)]
noncomputable abbrev Z48 (r:Hp):Hp:=.inst 365 Z01::.list [.nat 0]::.list [.bool false]::.txs []::r
noncomputable abbrev Z4l (a:List Row) (r:Hp):Hp:=.tree a::.inst 365 Z01::.list [.nat 0]::.list [.bool true]::.txs []::r
section
variable {g:Cx} (G:Gl g TT) (n:Nat)
include G
theorem rinit_cr {m:List Row}:CR g (n+2) 226 [L1,L0,.nat 0] [.tree m,.inst 365 []] (.none) ((.tree m::Z48 [])):=
 .gz G [.k 0,.k 0,.k 1] .n
theorem here0_cr {m:List Row}:CR g (n+2) 233 [L1] (Z4l m []) (.nat 0) ((Z4l m [])):=
 .gz G [] .n
theorem here1_cr {m:List Row}:CR g (n+2) 233 [L1] (.tree m::.inst 365 Z01::Z40 []) (.nat 1) ((.tree m::.inst 365 Z01::Z40 [])):=
 .gz G [] .n
theorem settle_cr {m:List Row}:CR g (n+2) 247 [L1] (.tree m::Z48 []) (.none) ((.tree m::Z48 [])):=
 .gz G [.k 1,.b true,.c,.gc Z1h []] (.c (EqL.same (.inl ⟨[],rfl,rfl⟩) rfl) .n)
theorem child0_cr {m:List Row}:CR g (n+3) 254 [L1] (.tree m::Z48 []) (.none) ((Z4l m [])):=
 .gz G [.call Z1h (.none) (.tree m::Z48 [])] (.c (settle_cr G n:CR g (n+1+1) 247 [L1] (.tree m::Z48 []) (.none) (.tree m::Z48 [])) .n)
theorem ahead_cr {m:List Row} {w:Str}:CR g (n+2) 327 [L1,.str w] (.tree m::.inst 365 Z01::Z40 []) (.none) ((.tree m::.inst 365 Z01::Z40 [])):=
 .gz G [.s,.c,.s,.c] .n
end
theorem look_none {p:Str} {ps:SS}:look p ps=none→∀ q∈ps,strB p q.1=false:=by
 induction ps with
|nil=>exact fun _ _ h=>nomatch h
|cons q r ih=>
  intro h x hx
  rw [look] at h
  cases z:strB p q.1 with
 |true=>rw [z] at h;cases h
 |false=>
   rw [z] at h
   exact (List.mem_cons.mp hx).elim (fun e=>e▸z) (ih h x)
theorem look_some {p v:Str} {ps:SS}:look p ps=some v→∃ (j:Nat) (q:Str×Str),ps[j]?=some q∧strB p q.1=true∧q.2=v∧∀ i q,i<j→ps[i]?=some q→strB p q.1=false:=by
 induction ps with
|nil=>exact fun h=>nomatch h
|cons q r ih=>
  intro h
  rw [look] at h
  cases z:strB p q.1 with
 |true=>rw [z] at h;exact ⟨0,q,rfl,z,Option.some.inj h,fun i _ hi=>absurd hi (Nat.not_lt_zero i)⟩
 |false=>
   rw [z] at h
   obtain ⟨j,x,h1,h2,h3,h4⟩:=ih h
   refine ⟨j+1,x,h1,h2,h3,fun i q' hi e=>?_⟩
   cases i with
  |zero=>rw [← Option.some.inj e];exact z
  |succ i=>exact h4 i q' (Nat.lt_of_succ_lt_succ hi) e
theorem strB_comm (a b:Str):strB a b=strB b a:=by
 rw [strB_eq,strB_eq]
 exact decide_eq_decide.mpr ⟨Eq.symm,Eq.symm⟩
noncomputable abbrev Z17 (a:Str):Vars:=[("self",L1),("prefix",.str a),("element",.nat 1)]
noncomputable abbrev Z2w:List Nat:=[0,1,2,3,4,5,6]
noncomputable abbrev Z26 (a:Str) (b:Nat):Vars:=[("self",L1),("prefix",.str a),("element",.nat 1),("node",.nat b)]
noncomputable abbrev Z3m (a:Str):Vars:=[("self",L1),("prefix",.str a)]
section
variable {g:Cx} (G:Gl g TT) (n:Nat)
include G
theorem bu_no {m:List Row} {j:Nat} {p:Str} {r:Row} {M:List Nat} (h:m[j]?=some r) (h1:strB r.name p=false):SsR g (n+3) (fun i=>i<7) (scF 282) (setL "node" (.nat j) (Z17 p)) (ssF 282 [1,0]) (.tree m::.inst 365 Z01::Z40 [.list [.nat 1],.ixs M]) .next ((Z17 p)) ((.tree m::.inst 365 Z01::Z40 [.list [.nat 1],.ixs M])):=
 .gz G [.call [0] (.str r.name) [.tree m],.b false,.gc Z2w ["self","prefix","element"]] (.c (name_cr G n h) (.c h1 .n))
theorem bu_yes {m:List Row} {j:Nat} {p:Str} {r:Row} {M:List Nat} (h:m[j]?=some r) (h1:strB r.name p=true):SsR g (n+3) (fun i=>i<7) (scF 282) (setL "node" (.nat j) (Z17 p)) (ssF 282 [1,0]) (.tree m::.inst 365 Z01::Z40 [.list [.nat 1],.ixs M]) (Fl.ret (.str r.value)) ((Z26 p j)) ((.tree m::.inst 365 Z01::Z40 [.list [.nat 1],.ixs M])):=
 .gz G [.call [0] (.str r.name) [.tree m],.b true,.call [0] (.str r.value) [.tree m]] (.c (name_cr G n h) (.c h1 (.c (value_cr G n h) .n)))
theorem bu_in0 {m:List Row} {p:Str} {M:List Nat} {ps:SS} (H:NsOk m M ps) (hn:look p ps=none):
  ∃ kk,LoR g (n+3) (fun i=>i<7) (scF 282) (forT (stF 282 [1] 0)) (ssF 282 [1,0]) (.lst L6) .next (Z17 p) (.tree m::.inst 365 Z01::Z40 [.list [.nat 1],.ixs M]) kk 0 (Z17 p) (.tree m::.inst 365 Z01::Z40 [.list [.nat 1],.ixs M]):=
 LoR.same (listOf_of (o:=.ixs M) rfl rfl) fun j hj=>by
  obtain ⟨q,hq⟩:=List.getElem?_of_mem hj
  obtain ⟨w,x,h1,h2,h3,_⟩:=H.2 q j hq
  exact ⟨_,.nm (k:=Q_ "node") (by kernel_rfl),bu_no G n h1 (by rw [h3,strB_comm];exact look_none hn x (List.mem_of_getElem? h2))⟩
theorem bu_in1 {m:List Row} {p v:Str} {M:List Nat} {ps:SS} (H:NsOk m M ps) (hn:look p ps=some v):
  ∃ y kk,LoR g (n+3) (fun i=>i<7) (scF 282) (forT (stF 282 [1] 0)) (ssF 282 [1,0]) (.lst L6) (.ret (.str v)) (setL "node" (.nat y) (Z17 p)) (.tree m::.inst 365 Z01::Z40 [.list [.nat 1],.ixs M]) kk 0 (Z17 p) (.tree m::.inst 365 Z01::Z40 [.list [.nat 1],.ixs M]):=by
 obtain ⟨j,q,h1,h2,h3,h4⟩:=look_some hn
 have hj:j<M.length:=by rw [H.1];exact (List.getElem?_eq_some_iff.mp h1).1
 have hy:=List.getElem?_eq_getElem hj
 refine ⟨M[j],LoR.steps (fun _=>(Z17 p)) (fun _=>(.tree m::.inst 365 Z01::Z40 [.list [.nat 1],.ixs M])) (j:=j) (fun a ha=>?_) (.ret rfl ((srcAt_ixs rfl).trans (by rw [hy];rfl)) (.nm (k:=Q_ "node") (by kernel_rfl)) ?_)⟩
 ·have hM:a<M.length:=Nat.lt_trans ha hj
  obtain ⟨w,x,e1,e2,e3,_⟩:=H.2 a M[a] (List.getElem?_eq_getElem hM)
  exact ⟨.nat M[a],_,by rw [srcAt_ixs rfl,List.getElem?_eq_getElem hM];rfl,.nm (k:=Q_ "node") (by kernel_rfl),bu_no G n e1 (by rw [e3,strB_comm];exact h4 a x ha e2)⟩
 ·obtain ⟨w,x,e1,e2,e3,e4,_⟩:=H.2 j M[j] hy
  obtain rfl:=Option.some.inj (h1.symm.trans e2)
  rw [← h3,← e4]
  exact bu_yes G n e1 (by rw [e3,strB_comm];exact h2)
theorem bu_o0 {m:List Row} {p:Str} {w:Row} {ps:SS} (hw:m[1]?=some w) (H:NsOk m w.ns ps) (hn:look p ps=none):SsR g (n+3) (fun i=>i<6) (scF 282) (setL "element" (.nat 1) (Z3m p)) (ssF 282 [1]) (.tree m::.inst 365 Z01::Z40 [.list [.nat 1]]) .next ((Z3m p)) ((.tree m::.inst 365 Z01::Z40 [.list [.nat 1]])):=
 .gz G [.call [0] L1 [.tree m,.ixs w.ns],.loop .next (Z17 p) (.tree m::.inst 365 Z01::Z40 [.list [.nat 1],.ixs w.ns]),.gc [0,1,2,3,4,5] ["self","prefix"]] (.c (nss_cr G n hw) (.c (bu_in0 G n H hn) (.c (VIn.loc (Nat.le_of_ble_eq_true rfl):SrcIn (fun i=>i<7) (Src.lst L6)) .n)))
theorem bu_o1 {m:List Row} {p:Str} {w:Row} {ps:SS} (hw:m[1]?=some w) (H:NsOk m w.ns ps) {v:Str} {y:Nat} (hn:∃ kk,LoR g (n+3) (fun i=>i<7) (scF 282) (forT (stF 282 [1] 0)) (ssF 282 [1,0]) (.lst L6) (.ret (.str v)) (setL "node" (.nat y) (Z17 p)) (.tree m::.inst 365 Z01::Z40 [.list [.nat 1],.ixs w.ns]) kk 0 (Z17 p) (.tree m::.inst 365 Z01::Z40 [.list [.nat 1],.ixs w.ns])):SsR g (n+3) (fun i=>i<6) (scF 282) (setL "element" (.nat 1) (Z3m p)) (ssF 282 [1]) (.tree m::.inst 365 Z01::Z40 [.list [.nat 1]]) (Fl.ret (.str v)) ((Z26 p y)) ((.tree m::.inst 365 Z01::Z40 [.list [.nat 1],.ixs w.ns])):=
 .gz G [.call [0] L1 [.tree m,.ixs w.ns],.loop (Fl.ret (.str v)) (Z26 p y) (.tree m::.inst 365 Z01::Z40 [.list [.nat 1],.ixs w.ns])] (.c (nss_cr G n hw) (.c hn (.c (VIn.loc (Nat.le_of_ble_eq_true rfl):SrcIn (fun i=>i<7) (Src.lst L6)) .n)))
theorem bound0_cr {m:List Row} {p:Str} {w:Row} {ps:SS} (hw:m[1]?=some w) (H:NsOk m w.ns ps) (hn:look p ps=none) (hx:strB p (Q_ "xml")=false):CR g (n+4) 282 [L1,.str p] (.tree m::.inst 365 Z01::Z40 []) (.str "") ((.tree m::.inst 365 Z01::Z40 [])):=
 .gz G [.b false,.loop .next (Z3m p) (.tree m::.inst 365 Z01::Z40 [.list [.nat 1]]),.s,.gc Z1h []] (.c hx (.c (⟨_,.turn (x:=.nat 1) ((srcAt_lst (listOf_of rfl rfl)).trans rfl) (.nm (k:=Q_ "element") (by kernel_rfl)) (bu_o0 G n hw H hn) (.done rfl ((srcAt_lst (listOf_of rfl rfl)).trans rfl))⟩:∃ k,LoR g (n+2+1) (fun i=>i<6) (scF 282) (forT (stF 282 [] 1)) (ssF 282 [1]) (Src.lst L5) Fl.next [(Q_ "self",L1),(Q_ "prefix",AV.str p)] [AObj.tree m,AObj.inst 365 [(Q_ "tree",L0),(Q_ "root",AV.nat 0),(Q_ "open",L2),(Q_ "has_children",L3),(Q_ "pending",L4)],AObj.list [AV.nat 0,AV.nat 1],AObj.list [AV.val (Value.bool true),AV.val (Value.bool false)],AObj.txs [],AObj.list [AV.nat 1]] k 0 [(Q_ "self",L1),(Q_ "prefix",AV.str p)] [AObj.tree m,AObj.inst 365 [(Q_ "tree",L0),(Q_ "root",AV.nat 0),(Q_ "open",L2),(Q_ "has_children",L3),(Q_ "pending",L4)],AObj.list [AV.nat 0,AV.nat 1],AObj.list [AV.val (Value.bool true),AV.val (Value.bool false)],AObj.txs [],AObj.list [AV.nat 1]]) (.c (VIn.loc (Nat.le_of_ble_eq_true rfl):SrcIn (fun i=>i<6) (Src.lst L5)) .n)))
theorem bound1_cr {m:List Row} {p:Str} {w:Row} {ps:SS} (hw:m[1]?=some w) (H:NsOk m w.ns ps) {v:Str} {y:Nat} (hx:strB p (Q_ "xml")=false) (hn:∃ kk,LoR g (n+3) (fun i=>i<7) (scF 282) (forT (stF 282 [1] 0)) (ssF 282 [1,0]) (.lst L6) (.ret (.str v)) (setL "node" (.nat y) (Z17 p)) (.tree m::.inst 365 Z01::Z40 [.list [.nat 1],.ixs w.ns]) kk 0 (Z17 p) (.tree m::.inst 365 Z01::Z40 [.list [.nat 1],.ixs w.ns])):CR g (n+4) 282 [L1,.str p] (.tree m::.inst 365 Z01::Z40 []) (.str v) ((.tree m::.inst 365 Z01::Z40 [])):=
 .gz G [.b false,.loop (Fl.ret (.str v)) (Z26 p y) (.tree m::.inst 365 Z01::Z40 [.list [.nat 1],.ixs w.ns]),.gc Z1h []] (.c hx (.c (⟨_,.ret (x:=.nat 1) rfl ((srcAt_lst (listOf_of rfl rfl)).trans rfl) (.nm (k:=Q_ "element") (by kernel_rfl)) (bu_o1 G n hw H hn)⟩:∃ k,LoR g (n+2+1) (fun i=>i<6) (scF 282) (forT (stF 282 [] 1)) (ssF 282 [1]) (Src.lst L5) (Fl.ret (AV.str v)) [(Q_ "self",L1),(Q_ "prefix",AV.str p),(Q_ "element",AV.nat 1),(Q_ "node",AV.nat y)] [AObj.tree m,AObj.inst 365 [(Q_ "tree",L0),(Q_ "root",AV.nat 0),(Q_ "open",L2),(Q_ "has_children",L3),(Q_ "pending",L4)],AObj.list [AV.nat 0,AV.nat 1],AObj.list [AV.val (Value.bool true),AV.val (Value.bool false)],AObj.txs [],AObj.list [AV.nat 1],AObj.ixs w.ns] k 0 [(Q_ "self",L1),(Q_ "prefix",AV.str p)] [AObj.tree m,AObj.inst 365 [(Q_ "tree",L0),(Q_ "root",AV.nat 0),(Q_ "open",L2),(Q_ "has_children",L3),(Q_ "pending",L4)],AObj.list [AV.nat 0,AV.nat 1],AObj.list [AV.val (Value.bool true),AV.val (Value.bool false)],AObj.txs [],AObj.list [AV.nat 1]]) (.c (VIn.loc (Nat.le_of_ble_eq_true rfl):SrcIn (fun i=>i<6) (Src.lst L5)) .n)))
theorem bound_cr {m:List Row} {p:Str} {w:Row} {ps:SS} (hw:m[1]?=some w) (H:NsOk m w.ns ps) (hx:strB p (Q_ "xml")=false):CR g (n+4) 282 [L1,.str p] (.tree m::.inst 365 Z01::Z40 []) (.str (getS p ps)) (.tree m::.inst 365 Z01::Z40 []):=by
 unfold getS
 cases e:look p ps with
|none=>exact bound0_cr G n hw H e hx
|some v=>obtain ⟨y,h⟩:=bu_in1 G n H e;exact bound1_cr G n hw H hx h
end
structure Orc (g:Cx) (n:Nat):Prop where
 split:∀ m,CR g (n+m+2) 157 [.str "z:e"] [] (.tup [.str "z",.str "e"]) []
 take:∀ n k x y,0<k→k<10→∃ d x' y',d<k∧CR g (n+2) 686 [L0,.nat k] [.src x y] (.nat d) [.src x' y']
theorem Orc.up {g:Cx} {n:Nat} (X:Orc g n) (k:Nat):Orc g (n+k):=⟨fun m=>Nat.add_assoc n k m▸X.split (k+m),X.take⟩
noncomputable abbrev Z1x (a:List Row) (b c:Str) (d:Row):Hp:=[.tree ((a++[Row.mk "namespace" b "" b c (some 1) [] [] []]).set 1 (rowP a.length RK.nss d))]
section
variable {g:Cx} (G:Gl g TT) (n:Nat)
include G
theorem bind1_cr {m:List Row} {p u:Str} {w:Row} (h:Nat.blt m.length cap=true) (hw:m[1]?=some w) (hk:strB w.kind (Q_ "element")=true) (hn:∀ j∈w.ns,∃ s,m[j]?=some s∧strB s.name p=false) (hc:Nat.blt w.ns.length cap=true) (hp:strB p (Q_ "")=true):CR g (n+6) 289 [L1,.str p,.str u] (.tree m::.inst 365 Z01::Z40 []) (.none) ((.tree ((m++[Row.mk "namespace" p "" p u (some 1) [] [] []]).set 1 (rowP m.length RK.nss w))::.inst 365 Z01::Z40 [])):=
 .gz G [.b false,.call Z1h (.nat 1) (.tree m::.inst 365 Z01::Z40 []),.call [0] (.int (Int.ofNat m.length)) (Z1x m p u w)] (.c ((by rw [hp];rfl):(bif true then !strB p (Q_ "") else strB p (Q_ ""))=false) (.c (here1_cr G (n+3):CR g (n+4+1) 233 [L1] (.tree m::.inst 365 Z01::Z40 []) (.nat 1) (.tree m::.inst 365 Z01::Z40 [])) (.c (addns_cr G n h hw hk hn hc:CR g (n+4+1) 482 [L0,.nat 1,.str p,.str u] [.tree m] (.int (Int.ofNat m.length)) (Z1x m p u w)) .n)))
theorem bind2_cr {m:List Row} {p u:Str} {w:Row} (h:Nat.blt m.length cap=true) (hw:m[1]?=some w) (hk:strB w.kind (Q_ "element")=true) (hn:∀ j∈w.ns,∃ s,m[j]?=some s∧strB s.name p=false) (hc:Nat.blt w.ns.length cap=true) (hp:strB p (Q_ "")=false) (hu:strB u (Q_ "")=false):CR g (n+6) 289 [L1,.str p,.str u] (.tree m::.inst 365 Z01::Z40 []) (.none) ((.tree ((m++[Row.mk "namespace" p "" p u (some 1) [] [] []]).set 1 (rowP m.length RK.nss w))::.inst 365 Z01::Z40 [])):=
 .gz G [.b true,.b false,.call Z1h (.nat 1) (.tree m::.inst 365 Z01::Z40 []),.call [0] (.int (Int.ofNat m.length)) (Z1x m p u w)] (.c ((by rw [hp];rfl):(bif true then !strB p (Q_ "") else strB p (Q_ ""))=true) (.c hu (.c (here1_cr G (n+3):CR g (n+4+1) 233 [L1] (.tree m::.inst 365 Z01::Z40 []) (.nat 1) (.tree m::.inst 365 Z01::Z40 [])) (.c (addns_cr G n h hw hk hn hc:CR g (n+4+1) 482 [L0,.nat 1,.str p,.str u] [.tree m] (.int (Int.ofNat m.length)) (Z1x m p u w)) .n))))
noncomputable def outN (m:List Row) (j:Nat):Option AV:=m[j]?.map fun r=>.str r.name
omit G in
theorem outN_eq {m:List Row} {M:List Nat} {ps:SS} (H:NsOk m M ps):M.filterMap (outN m)=strsAV (ps.map (·.1)):=by
 have e:M.filterMap (outN m)=M.map fun j=>AV.str ((m[j]?.map (·.name)).getD (Q_ "")):=by
  refine filterMap_some fun j hj=>?_
  obtain ⟨q,hq⟩:=List.getElem?_of_mem hj
  obtain ⟨w,x,h1,_⟩:=H.2 q j hq
  rw [outN,h1];rfl
 rw [e,strsAV,List.map_map]
 refine List.ext_getElem? fun i=>?_
 rw [List.getElem?_map,List.getElem?_map]
 cases hi:M[i]? with
|none=>rw [List.getElem?_eq_none_iff.mpr (H.1▸List.getElem?_eq_none_iff.mp hi)];rfl
|some j=>
  obtain ⟨w,x,h1,h2,h3,_⟩:=H.2 i j hi
  rw [h2]
  show some (AV.str ((m[j]?.map (·.name)).getD (Q_ "")))=some (AV.str x.1)
  rw [h1,← h3];rfl
omit G in
theorem noIfs {n:Nat} {sc:Scope} {vs:Vars} {ifs:List Expr} {a:Hp} (h:[]=ifs):TcR g n sc vs ifs a true a:=h▸.nil
theorem ibh_elt {m:List Row} {j:Nat} {r:Row} {M:List Nat} (h:m[j]?=some r):EvR g (n+3) (cSc (exF 294 [] 0 [1])) (setL "node" (.nat j) [("self",L1)]) (cElt (exF 294 [] 0 [1])) (.tree m::.inst 365 Z01::Z40 [.ixs M]) (.str r.name) (.tree m::.inst 365 Z01::Z40 [.ixs M]):=
 .gz G [.call [0] (.str r.name) [.tree m]] (.c (name_cr G n h) .n)
theorem ibh_comp {m:List Row} {M:List Nat} {ps:SS} (H:NsOk m M ps):CoL g (n+3) (cSc (exF 294 [] 0 [1])) (cGen (exF 294 [] 0 [1])).target (cElt (exF 294 [] 0 [1])) (cGen (exF 294 [] 0 [1])).ifs (.lst L5) (.tree m::.inst 365 Z01::Z40 [.ixs M]) M.length 0 [("self",L1)] (.tree m::.inst 365 Z01::Z40 [.ixs M]) (strsAV (ps.map (·.1))):=by
 rw [← outN_eq H]
 refine .same1 (k:=Q_ "node") .nat (outN m) (by kernel_rfl) (by kernel_rfl) (listOf_of (o:=.ixs M) rfl rfl) (fun j hj e=>?_) fun j hj y e=>?_
 ·obtain ⟨q,hq⟩:=List.getElem?_of_mem hj
  obtain ⟨w,z,h1,_⟩:=H.2 q j hq
  rw [outN,h1] at e;cases e
 ·obtain ⟨q,hq⟩:=List.getElem?_of_mem hj
  obtain ⟨w,z,h1,_⟩:=H.2 q j hq
  rw [outN,h1] at e
  obtain rfl:=Option.some.inj e
  exact ⟨noIfs (by kernel_rfl),ibh_elt G n h1⟩
theorem ibh_cr {m:List Row} {p:Str} {w:Row} {ps:SS} (hw:m[1]?=some w) (H:NsOk m w.ns ps) (hl:w.ns.length≤1000):CR g (n+4) 294 [L1,.str p] (.tree m::.inst 365 Z01::Z40 []) (.val (Value.bool (inB p (List.map (fun x=>x.fst) ps)))) ((.tree m::.inst 365 Z01::Z40 [])):=
 .gz G [.call Z1h (.nat 1) (.tree m::.inst 365 Z01::Z40 []),.call [0] L1 [.tree m,.ixs w.ns],.comp w.ns.length (strsAV (List.map (fun x=>x.fst) ps)) (.txs (List.map (fun x=>x.fst) ps)) (.tree m::.inst 365 Z01::Z40 [.ixs w.ns]),.gc Z1h []] (.c (here1_cr G (n+1):CR g (n+2+1) 233 [L1] (.tree m::.inst 365 Z01::Z40 []) (.nat 1) (.tree m::.inst 365 Z01::Z40 [])) (.c (nss_cr G n hw) (.c (ibh_comp G n H) (.c (Nat.le_trans hl (Nat.le_of_ble_eq_true rfl):w.ns.length≤1000000) (.c (rfl:some (strsAV (List.map (fun x=>x.fst) ps))=some (strsAV (List.map (fun x=>x.fst) ps))) .n)))))
end
noncomputable def forChr (sc:Scope) (k:Str):Stmt→Bool
|.For tgt iter _ [] _=>tgtN sc tgt k&&noSet iter
|_=>false
theorem SR.chr {g:Cx} {n:Nat} {D:Nat→Prop} {sc:Scope} {vs vs':Vars} {a a':Hp} {st:Stmt} {c:Nat} {k:Str} (h:forChr sc k st=true) (hc:c<128) (H:EvR g n sc vs (exS st) a (.str ⟨#[c]⟩) a) (B:SsR g n D sc (setL k (.str ⟨#[c]⟩) vs) (blk st) a .next vs' a'):SR g n D sc vs st a .next vs' a':=by
 cases st with
|For tgt iter body els pos=>
  cases els with
 |nil=>
   have h:=(Bool.and_eq_true _ _).mp h
   refine SR.for (k:=1) (.txt h.2 H ?_) trivial (fun z=>nomatch z) (.turn rfl (.nm h.1) B (.done rfl rfl))
   show ([c].toArray).all _=true
   simpa using hc
 |cons=>cases h
|_=>cases h
noncomputable abbrev Z35 (a:Nat):Vars:=[("text",.str (Str.mk #[a])),("sign",.str (Str.mk #[a]))]
noncomputable abbrev Z2c (a b:Nat):Hp:=[.txs [Str.mk #[a],Str.mk #[b]]]
section
variable {g:Cx} (G:Gl g TT) (n:Nat)
include G
theorem small_cr {c:Nat} (h1:CmpR g .LtE (.str "a") (.str ⟨#[c]⟩) [] true) (h2:CmpR g .LtE (.str ⟨#[c]⟩) (.str "z") [] true):CR g (n+2) 115 [.str ⟨#[c]⟩] [] (.bool true) (([]:Hp)):=
 .gz G [.b true,.c,.b true] (.c h1 (.c h2 .n))
theorem start_ok {c:Nat} (h0:decide (Int.ofNat c<Int.ofNat 128)=true) (h:CR g (n+2) 115 [.str ⟨#[c]⟩] [] (.bool true) []):CR g (n+3) 122 [.str ⟨#[c]⟩] [] (.bool true) (([]:Hp)):=
 .gz G [.exp (.nat c) [],.b true,.call [] (.bool true) [],.c] (.c (.ord:CallR g (Value.builtin "ord") [.str (Str.mk #[c])] [] (.nat c) []) (.c h0 (.c h .n)))
theorem char_ok {c:Nat} (h:CR g (n+3) 122 [.str ⟨#[c]⟩] [] (.bool true) []):CR g (n+4) 129 [.str ⟨#[c]⟩] [] (.bool true) (([]:Hp)):=
 .gz G [.call [] (.bool true) [],.c] (.c h .n)
theorem tok_it {c:Nat}:EvR g (n+4) (scF 136) [("text",.str ⟨#[c]⟩)] (exF 136 [] 0 []) [] (.str (Str.mk #[c])) (([]:Hp)):=
 .go (d:=0) G 60 [] (Eq.mp (α:=(AV.str (Str.mk #[c])=AV.str (Str.mk #[c])∧([]:Hp)=([]:Hp))) (by kernel_rfl) ⟨rfl,rfl⟩)
theorem tok_body {c:Nat} (h:CR g (n+4) 129 [.str ⟨#[c]⟩] [] (.bool true) []):SsR g (n+4) (fun i=>i<0) (scF 136) [("text",.str ⟨#[c]⟩),("sign",.str ⟨#[c]⟩)] (ssF 136 [0]) [] .next ((Z35 c)) (([]:Hp)):=
 .gz G [.call [] (.bool true) [],.c] (.c h .n)
theorem token_ok {c:Nat} (hc:c<128) (h:CR g (n+4) 129 [.str ⟨#[c]⟩] [] (.bool true) []):CR g (n+5) 136 [.str ⟨#[c]⟩] [] (.bool true) (([]:Hp)):=
 .gz G [.stm .next (Z35 c) []] (.c (.chr (k:=Str.ofString "sign") (by kernel_rfl) hc (tok_it G n) (tok_body G n h):SR g (n+3+1) (fun i=>i<([]:Hp).length) (scF 136) [("text",.str (Str.mk #[c]))] (stF 136 [] 0) [] .next (Z35 c) []) .n)
theorem name_ok {c:Nat} (h:CR g (n+6) 122 [.str ⟨#[c]⟩] [] (.bool true) []) (h2:CR g (n+6) 136 [.str ⟨#[c]⟩] [] (.bool true) []):CR g (n+7) 143 [.str ⟨#[c]⟩] [] (.bool true) (([]:Hp)):=
 .gz G [.c,.k c,.call [] (.bool true) [],.c,.call [] (.bool true) []] (.c (rfl:some c=some c) (.c h (.c h2 .n)))
theorem nc_ok {c:Nat} (hn:(!subB ":" (Str.mk #[c]))=true) (h:CR g (n+7) 143 [.str ⟨#[c]⟩] [] (.bool true) []):CR g (n+8) 150 [.str ⟨#[c]⟩] [] (.bool true) (([]:Hp)):=
 .gz G [.b true,.call [] (.bool true) []] (.c hn (.c h .n))
omit G in
theorem le_chr {s q:Str} (e:decide (q.cps.toList<s.cps.toList)=false):CmpR g .LtE (.str s) (.str q) [] true:=.leS e
theorem part_cr {c:Nat} (h1:decide ([c]<[97])=false) (h2:decide ([122]<[c])=false) (hc:c<128) (hn:(!subB ":" (Str.mk #[c]))=true):CR g (n+8) 150 [.str ⟨#[c]⟩] [] (.bool true) []:=
 have S (m:Nat):CR g (m+3) 122 [.str ⟨#[c]⟩] [] (.bool true) []:=start_ok G m (decide_eq_true (Int.ofNat_lt.mpr hc)) (small_cr G m (le_chr h1) (le_chr h2))
 nc_ok G n hn (name_ok G n (S (n+3)) (token_ok G (n+1) hc (char_ok G (n+1) (S (n+1)))))
theorem sp_body {c d:Nat} {z x:Str} (h:CR g (n+8) 150 [.str x] [] (.bool true) []):SsR g (n+8) (fun i=>i<1) (scF 157) [("name",.str z),("parts",L0),("part",.str x)] (ssF 157 [2]) (Z2c c d) .next ([("name",.str z),("parts",L0),("part",.str x)]) ((Z2c c d)):=
 .gz G [.call [] (.bool true) [],.c] (.c h .n)
theorem spn_loop {c d:Nat} (hc:CR g (n+8) 150 [.str (Str.mk #[c])] [] (.bool true) []) (hd:CR g (n+8) 150 [.str (Str.mk #[d])] [] (.bool true) []) {z:Str}:∃ kk,LoR g (n+8) (fun i=>i<1) (scF 157) (forT (stF 157 [] 2)) (ssF 157 [2]) (.lst L0) .next [("name",.str z),("parts",L0),("part",.str (Str.mk #[d]))] (Z2c c d) kk 0 [("name",.str z),("parts",L0)] (Z2c c d):=
 ⟨2,.turn (x:=.str (Str.mk #[c])) rfl (.nm (k:=Str.ofString "part") (by kernel_rfl)) (sp_body G n hc) (.turn (x:=.str (Str.mk #[d])) rfl (.nm (k:=Str.ofString "part") (by kernel_rfl)) (sp_body G n hd) (.done rfl rfl))⟩
theorem split_x {c d:Nat} (hc:CR g (n+8) 150 [.str (Str.mk #[c])] [] (.bool true) []) (hd:CR g (n+8) 150 [.str (Str.mk #[d])] [] (.bool true) []) {z:Str} (hs:CallR g (.builtin "str.split") [.str z,.str ":"] [] L0 (Z2c c d)):CR g (n+9) 157 [.str z] [] (.tup [.str (Str.mk #[c]),.str (Str.mk #[d])]) (([]:Hp)):=
 .gz G [.exp L0 (Z2c c d),.c,.loop .next [("name",.str z),("parts",L0),("part",.str (Str.mk #[d]))] (Z2c c d),.s,.c,.s,.s,.c,.c,.gc [] []] (.c hs (.c (spn_loop G n hc hd:∃ k,LoR g (n+7+1) (fun i=>i<1) (scF 157) (forT (stF 157 [] 2)) (ssF 157 [2]) (Src.lst L0) Fl.next [(Str.ofString "name",AV.str z),(Str.ofString "parts",L0),(Str.ofString "part",AV.str (Str.mk #[d]))] [AObj.txs [Str.mk #[c],Str.mk #[d]]] k 0 [(Str.ofString "name",AV.str z),(Str.ofString "parts",L0)] [AObj.txs [Str.mk #[c],Str.mk #[d]]]) (.c (VIn.loc (Nat.le_of_ble_eq_true rfl):SrcIn (fun i=>i<1) (Src.lst L0)) .n)))
theorem split_cr:CR g (n+9) 157 [.str "z:e"] [] (.tup [.str "z",.str "e"]) []:=
 split_x G n (c:=122) (d:=101) (part_cr G n (by decide) (by decide) (by decide) (by kernel_rfl)) (part_cr G n (by decide) (by decide) (by decide) (by kernel_rfl)) (.split (by kernel_rfl) (by kernel_rfl) (by kernel_rfl) (by decide) (by kernel_rfl) (by kernel_rfl) (Nat.le_of_ble_eq_true rfl))
theorem orc:Orc g 7:=⟨fun m=>Nat.add_comm m 7▸split_cr G m,take_cr G⟩
end
section
variable {g:Cx} (G:Gl g TT) (n:Nat)
include G
theorem tk_elt (X:Orc g n) {m:List Row} {r:Row} (h:m[1]?=some r) (hn:r.name=Q_ "z:e"):EvR g (n+3) (cSc (exF 299 [] 2 [1])) (setL "node" (.nat 1) [("self",L1)]) (cElt (exF 299 [] 2 [1])) (.tree m::.inst 365 Z01::Z40 [.ixs [1]]) (.str "z") (.tree m::.inst 365 Z01::Z40 [.ixs [1]]):=
 .gz G [.call [0] (.str "z:e") [.tree m],.call [] (.tup [.str "z",.str "e"]) [],.c] (.c (hn▸name_cr G n h) (.c (X.split 1) .n))
theorem tk_comp (X:Orc g n) {m:List Row} {r:Row} (h:m[1]?=some r) (hn:r.name=Q_ "z:e"):CoL g (n+3) (cSc (exF 299 [] 2 [1])) (cGen (exF 299 [] 2 [1])).target (cElt (exF 299 [] 2 [1])) (cGen (exF 299 [] 2 [1])).ifs (.lst L5) (.tree m::.inst 365 Z01::Z40 [.ixs [1]]) 1 0 [("self",L1)] (.tree m::.inst 365 Z01::Z40 [.ixs [1]]) [.str "z"]:=
 .yes (x:=.nat 1) ((srcAt_lst (listOf_of (o:=.ixs [1]) rfl rfl)).trans rfl) (.nm (k:=Q_ "node") (by kernel_rfl)) (noIfs (by kernel_rfl)) (tk_elt G n X h hn) (.done ((srcAt_lst (listOf_of (o:=.ixs [1]) rfl rfl)).trans rfl))
theorem taken_cr (X:Orc g n) {m:List Row} {p:Str} {w:Row} {ps:SS} (hw:m[1]?=some w) (hn:w.name=Q_ "z:e") (ha:w.at_=[]) (H:NsOk m w.ns ps) (hl:w.ns.length≤1000) (h1:inB p [Q_ "",Q_ "xml",Q_ "xmlns"]=false) (h2:inB p (ps.map (·.1))=false) (h3:inB p [Q_ "z"]=false):CR g (n+5) 299 [.loc 1 .root,.str p] (.tree m::.inst 365 [(Q_ "tree",.loc 0 .root),(Q_ "root",.nat 0),(Q_ "open",.loc 2 .root),(Q_ "has_children",.loc 3 .root),(Q_ "pending",.loc 4 .root)]::Z40 []) (.bool false) ([AObj.tree m,AObj.inst 365 [(Q_ "tree",L0),(Q_ "root",AV.nat 0),(Q_ "open",L2),(Q_ "has_children",L3),(Q_ "pending",L4)],AObj.list [AV.nat 0,AV.nat 1],AObj.list [AV.val (Value.bool true),AV.val (Value.bool false)],AObj.txs []]):=
 .go G 60 [Hint.b false,Hint.call Z1h (AV.val (Value.bool (inB p (List.map (fun x=>x.fst) ps)))) [AObj.tree m,AObj.inst 365 [(Q_ "tree",L0),(Q_ "root",AV.nat 0),(Q_ "open",L2),(Q_ "has_children",L3),(Q_ "pending",L4)],AObj.list [AV.nat 0,AV.nat 1],AObj.list [AV.val (Value.bool true),AV.val (Value.bool false)],AObj.txs []],Hint.b false,Hint.call Z1h (AV.nat 1) [AObj.tree m,AObj.inst 365 [(Q_ "tree",L0),(Q_ "root",AV.nat 0),(Q_ "open",L2),(Q_ "has_children",L3),(Q_ "pending",L4)],AObj.list [AV.nat 0,AV.nat 1],AObj.list [AV.val (Value.bool true),AV.val (Value.bool false)],AObj.txs []],Hint.k 2,Hint.call Z1h (AV.nat 1) [AObj.tree m,AObj.inst 365 [(Q_ "tree",L0),(Q_ "root",AV.nat 0),(Q_ "open",L2),(Q_ "has_children",L3),(Q_ "pending",L4)],AObj.list [AV.nat 0,AV.nat 1],AObj.list [AV.val (Value.bool true),AV.val (Value.bool false)],AObj.txs []],Hint.call [0] L1 [AObj.tree m,AObj.ixs []],Hint.c,Hint.gc [0,1,2,3,4,7] [Q_ "self",Q_ "prefix",Q_ "nodes"],Hint.comp 1 [AV.str (Q_ "z")] (AObj.txs [Q_ "z"]) [AObj.tree m,AObj.inst 365 [(Q_ "tree",L0),(Q_ "root",AV.nat 0),(Q_ "open",L2),(Q_ "has_children",L3),(Q_ "pending",L4)],AObj.list [AV.nat 0,AV.nat 1],AObj.list [AV.val (Value.bool true),AV.val (Value.bool false)],AObj.txs [],AObj.ixs [1]],Hint.gc Z1h []] (Eq.mp (α:=(inB p [Q_ "",Q_ "xml",Q_ "xmlns"]=false)∧(CR g (n+3+1) 294 [L1,AV.str p] [AObj.tree m,AObj.inst 365 [(Q_ "tree",L0),(Q_ "root",AV.nat 0),(Q_ "open",L2),(Q_ "has_children",L3),(Q_ "pending",L4)],AObj.list [AV.nat 0,AV.nat 1],AObj.list [AV.val (Value.bool true),AV.val (Value.bool false)],AObj.txs []] (AV.val (Value.bool (inB p (List.map (fun x=>x.fst) ps)))) [AObj.tree m,AObj.inst 365 [(Q_ "tree",L0),(Q_ "root",AV.nat 0),(Q_ "open",L2),(Q_ "has_children",L3),(Q_ "pending",L4)],AObj.list [AV.nat 0,AV.nat 1],AObj.list [AV.val (Value.bool true),AV.val (Value.bool false)],AObj.txs []])∧(inB p (List.map (fun x=>x.fst) ps)=false)∧(CR g (n+3+1) 233 [L1] [AObj.tree m,AObj.inst 365 [(Q_ "tree",L0),(Q_ "root",AV.nat 0),(Q_ "open",L2),(Q_ "has_children",L3),(Q_ "pending",L4)],AObj.list [AV.nat 0,AV.nat 1],AObj.list [AV.val (Value.bool true),AV.val (Value.bool false)],AObj.txs []] (AV.nat 1) [AObj.tree m,AObj.inst 365 [(Q_ "tree",L0),(Q_ "root",AV.nat 0),(Q_ "open",L2),(Q_ "has_children",L3),(Q_ "pending",L4)],AObj.list [AV.nat 0,AV.nat 1],AObj.list [AV.val (Value.bool true),AV.val (Value.bool false)],AObj.txs []])∧(CR g (n+3+1) 233 [L1] [AObj.tree m,AObj.inst 365 [(Q_ "tree",L0),(Q_ "root",AV.nat 0),(Q_ "open",L2),(Q_ "has_children",L3),(Q_ "pending",L4)],AObj.list [AV.nat 0,AV.nat 1],AObj.list [AV.val (Value.bool true),AV.val (Value.bool false)],AObj.txs []] (AV.nat 1) [AObj.tree m,AObj.inst 365 [(Q_ "tree",L0),(Q_ "root",AV.nat 0),(Q_ "open",L2),(Q_ "has_children",L3),(Q_ "pending",L4)],AObj.list [AV.nat 0,AV.nat 1],AObj.list [AV.val (Value.bool true),AV.val (Value.bool false)],AObj.txs []])∧(CR g (n+3+1) 545 [L0,AV.nat 1] [AObj.tree m] L1 [AObj.tree m,AObj.ixs []])∧(CoL g (n+3+1) (cSc (exF 299 [] 2 [1])) (cGen (exF 299 [] 2 [1])).target (cElt (exF 299 [] 2 [1])) (cGen (exF 299 [] 2 [1])).ifs (Src.lst L5) [AObj.tree m,AObj.inst 365 [(Q_ "tree",L0),(Q_ "root",AV.nat 0),(Q_ "open",L2),(Q_ "has_children",L3),(Q_ "pending",L4)],AObj.list [AV.nat 0,AV.nat 1],AObj.list [AV.val (Value.bool true),AV.val (Value.bool false)],AObj.txs [],AObj.ixs [1]] 1 0 [(Q_ "self",L1)] [AObj.tree m,AObj.inst 365 [(Q_ "tree",L0),(Q_ "root",AV.nat 0),(Q_ "open",L2),(Q_ "has_children",L3),(Q_ "pending",L4)],AObj.list [AV.nat 0,AV.nat 1],AObj.list [AV.val (Value.bool true),AV.val (Value.bool false)],AObj.txs [],AObj.ixs [1]] [AV.str (Q_ "z")])∧(1≤1000000)∧(some [AV.str (Q_ "z")]=some [AV.str (Q_ "z")])∧(AV.val (Value.bool (inB p [Q_ "z"]))=.bool false∧[AObj.tree m,AObj.inst 365 [(Q_ "tree",L0),(Q_ "root",AV.nat 0),(Q_ "open",L2),(Q_ "has_children",L3),(Q_ "pending",L4)],AObj.list [AV.nat 0,AV.nat 1],AObj.list [AV.val (Value.bool true),AV.val (Value.bool false)],AObj.txs []]=[AObj.tree m,AObj.inst 365 [(Q_ "tree",L0),(Q_ "root",AV.nat 0),(Q_ "open",L2),(Q_ "has_children",L3),(Q_ "pending",L4)],AObj.list [AV.nat 0,AV.nat 1],AObj.list [AV.val (Value.bool true),AV.val (Value.bool false)],AObj.txs []])) (by kernel_rfl) ⟨h1,ibh_cr G n hw H hl,h2,here1_cr G (n+2),here1_cr G (n+2),ha▸atts_cr G (n+1) hw,tk_comp G (n+1) (X.up 1) hw hn,Nat.le_of_ble_eq_true rfl,rfl,by rw [h3],rfl⟩)
end
section
variable {g:Cx} (G:Gl g TT) (n:Nat)
include G
theorem ns1_cr (X:Orc g n) {m:List Row} {p u:Str} {w:Row} {ps:SS} (h:Nat.blt m.length cap=true) (hw:m[1]?=some w) (hk:strB w.kind (Q_ "element")=true) (hn:w.name=Q_ "z:e") (ha:w.at_=[]) (H:NsOk m w.ns ps) (hl:w.ns.length≤1000) (hq:∀ j∈w.ns,∃ s,m[j]?=some s∧strB s.name p=false) (hx:strB p (Q_ "xml")=false) (hb:strB (getS p ps) u=false) (h2:inB p (ps.map (·.1))=false) (hp:strB p (Q_ "")=true):CR g (n+7) 306 [L1,.str p,.str u] (.tree m::.inst 365 Z01::Z40 []) (.none) ((.tree ((m++[Row.mk "namespace" p "" p u (some 1) [] [] []]).set 1 (rowP m.length RK.nss w))::.inst 365 Z01::Z40 [])):=
 .gz G [.call Z1h (.none) (.tree m::.inst 365 Z01::Z40 []),.call Z1h (.str (getS p ps)) (.tree m::.inst 365 Z01::Z40 []),.b false,.call Z1h (.val (Value.bool (inB p (List.map (fun x=>x.fst) ps)))) (.tree m::.inst 365 Z01::Z40 []),.b false,.b true,.call Z1h (.nat 1) (.tree m::.inst 365 Z01::Z40 []),.call [0] (.str "z:e") [.tree m],.call [] (.tup [.str "z",.str "e"]) [],.c,.c,.call Z1h (.none) (.tree ((m++[Row.mk "namespace" p "" p u (some 1) [] [] []]).set 1 (rowP m.length RK.nss w))::.inst 365 Z01::Z40 [])] (.c (ahead_cr G (n+4):CR g (n+5+1) 327 [L1,.str "a namespace"] (.tree m::.inst 365 Z01::Z40 []) (.none) (.tree m::.inst 365 Z01::Z40 [])) (.c (bound_cr G (n+2) hw H hx) (.c hb (.c (ibh_cr G (n+2) hw H hl:CR g (n+5+1) 294 [L1,.str p] (.tree m::.inst 365 Z01::Z40 []) (.val (Value.bool (inB p (List.map (fun x=>x.fst) ps)))) (.tree m::.inst 365 Z01::Z40 [])) (.c h2 (.c hp (.c (here1_cr G (n+4):CR g (n+5+1) 233 [L1] (.tree m::.inst 365 Z01::Z40 []) (.nat 1) (.tree m::.inst 365 Z01::Z40 [])) (.c (hn▸name_cr G (n+3) hw) (.c (X.split 4) (.c (bind1_cr G n h hw hk hq (Nat.ble_eq_true_of_le (Nat.le_trans (Nat.succ_le_succ hl) (Nat.le_of_ble_eq_true rfl))) hp:CR g (n+5+1) 289 [L1,.str p,.str u] (.tree m::.inst 365 Z01::Z40 []) (.none) (.tree ((m++[Row.mk "namespace" p "" p u (some 1) [] [] []]).set 1 (rowP m.length RK.nss w))::.inst 365 Z01::Z40 [])) .n))))))))))
theorem ns2_cr (X:Orc g n) {m:List Row} {p u:Str} {w:Row} {ps:SS} (h:Nat.blt m.length cap=true) (hw:m[1]?=some w) (hk:strB w.kind (Q_ "element")=true) (hn:w.name=Q_ "z:e") (ha:w.at_=[]) (H:NsOk m w.ns ps) (hl:w.ns.length≤1000) (hq:∀ j∈w.ns,∃ s,m[j]?=some s∧strB s.name p=false) (hx:strB p (Q_ "xml")=false) (hb:strB (getS p ps) u=false) (h2:inB p (ps.map (·.1))=false) (hp:strB p (Q_ "")=false) (hu:strB u (Q_ "")=false) (h1:inB p ["","xml","xmlns"]=false) (h3:inB p ["z"]=false):CR g (n+7) 306 [L1,.str p,.str u] (.tree m::.inst 365 Z01::Z40 []) (.none) ((.tree ((m++[Row.mk "namespace" p "" p u (some 1) [] [] []]).set 1 (rowP m.length RK.nss w))::.inst 365 Z01::Z40 [])):=
 .gz G [.call Z1h (.none) (.tree m::.inst 365 Z01::Z40 []),.call Z1h (.str (getS p ps)) (.tree m::.inst 365 Z01::Z40 []),.b false,.call Z1h (.val (Value.bool (inB p (List.map (fun x=>x.fst) ps)))) (.tree m::.inst 365 Z01::Z40 []),.b false,.b false,.call Z1h (.bool false) (.tree m::.inst 365 Z01::Z40 []),.c,.call Z1h (.none) (.tree ((m++[Row.mk "namespace" p "" p u (some 1) [] [] []]).set 1 (rowP m.length RK.nss w))::.inst 365 Z01::Z40 [])] (.c (ahead_cr G (n+4):CR g (n+5+1) 327 [L1,.str "a namespace"] (.tree m::.inst 365 Z01::Z40 []) (.none) (.tree m::.inst 365 Z01::Z40 [])) (.c (bound_cr G (n+2) hw H hx) (.c hb (.c (ibh_cr G (n+2) hw H hl:CR g (n+5+1) 294 [L1,.str p] (.tree m::.inst 365 Z01::Z40 []) (.val (Value.bool (inB p (List.map (fun x=>x.fst) ps)))) (.tree m::.inst 365 Z01::Z40 [])) (.c h2 (.c hp (.c (taken_cr G (n+1) (X.up 1) hw hn ha H hl h1 h2 h3) (.c (bind2_cr G n h hw hk hq (Nat.ble_eq_true_of_le (Nat.le_trans (Nat.succ_le_succ hl) (Nat.le_of_ble_eq_true rfl))) hp hu) .n))))))))
end
noncomputable abbrev Z4c (r:Hp):Hp:=.tree [Row.mk "root" "" "" "" "" none [] [] []]::.inst 365 Z01::.list [.nat 0]::.list [.bool true]::.txs []::r
noncomputable abbrev Z30:Hp:=[.tree [Row.mk "root" "" "" "" "" none [1] [] [],Row.mk "element" "z:e" "u:z" "e" "" (some 0) [] [] []]]
noncomputable abbrev Z22:Hp:=[.tree [Row.mk "root" "" "" "" "" none [] [] []]]
section
variable {g:Cx} (G:Gl g TT) (n:Nat)
include G
theorem start_cr (X:Orc g n):CR g (n+7) 261 [L1,.str "z:e",.str "u:z"] (.tree [(Row.mk "root" "" "" "" "" none [] [] [])]::Z48 []) (.nat 1) ((.tree [Row.mk "root" "" "" "" "" none [1] [] [],Row.mk "element" "z:e" "u:z" "e" "" (some 0) [] [] [2],Row.mk "namespace" "z" "" "z" "u:z" (some 1) [] [] []]::.inst 365 Z01::Z40 [])):=
 .gz G [.call Z1h (.none) (Z4c []),.call [] (.tup [.str "z",.str "e"]) [],.call Z1h (.nat 0) (Z4c []),.call [0] (.nat 1) Z30,.c,.c,.call Z1h (.str "") (.tree [Row.mk "root" "" "" "" "" none [1] [] [],Row.mk "element" "z:e" "u:z" "e" "" (some 0) [] [] []]::.inst 365 Z01::Z40 []),.c,.call Z1h (.none) (.tree [Row.mk "root" "" "" "" "" none [1] [] [],Row.mk "element" "z:e" "u:z" "e" "" (some 0) [] [] [2],Row.mk "namespace" "z" "" "z" "u:z" (some 1) [] [] []]::.inst 365 Z01::Z40 [])] (.c (child0_cr G (n+3):CR g (n+5+1) 254 [L1] (.tree [Row.mk "root" "" "" "" "" none [] [] []]::Z48 []) (.none) (Z4c [])) (.c (X.split 4) (.c (here0_cr G (n+4):CR g (n+5+1) 233 [L1] (Z4c []) (.nat 0) (Z4c [])) (.c (el_cr G n (t:=[(Row.mk "root" "" "" "" "" none [] [] [])]) (p:=0) (r:=(Row.mk "root" "" "" "" "" none [] [] [])) rfl rfl rfl rfl:CR g (n+5+1) 440 [L0,.nat 0,.str "z:e",.str "u:z",.str "e"] Z22 (.nat 1) Z30) (.c (bound_cr G (n+2) (m:=[(Row.mk "root" "" "" "" "" none [1] [] []),(Row.mk "element" "z:e" "u:z" "e" "" (some 0) [] [] [])]) (w:=(Row.mk "element" "z:e" "u:z" "e" "" (some 0) [] [] [])) (ps:=[]) rfl ⟨rfl,fun i k h=>nomatch h⟩ rfl:CR g (n+5+1) 282 [L1,.str "z"] (.tree [Row.mk "root" "" "" "" "" none [1] [] [],Row.mk "element" "z:e" "u:z" "e" "" (some 0) [] [] []]::.inst 365 Z01::Z40 []) (.str "") (.tree [Row.mk "root" "" "" "" "" none [1] [] [],Row.mk "element" "z:e" "u:z" "e" "" (some 0) [] [] []]::.inst 365 Z01::Z40 [])) (.c (bind2_cr G n (m:=[(Row.mk "root" "" "" "" "" none [1] [] []),(Row.mk "element" "z:e" "u:z" "e" "" (some 0) [] [] [])]) (w:=(Row.mk "element" "z:e" "u:z" "e" "" (some 0) [] [] [])) rfl rfl rfl (fun j h=>nomatch h) rfl rfl rfl:CR g (n+5+1) 289 [L1,.str "z",.str "u:z"] (.tree [Row.mk "root" "" "" "" "" none [1] [] [],Row.mk "element" "z:e" "u:z" "e" "" (some 0) [] [] []]::.inst 365 Z01::Z40 []) (.none) (.tree [Row.mk "root" "" "" "" "" none [1] [] [],Row.mk "element" "z:e" "u:z" "e" "" (some 0) [] [] [2],Row.mk "namespace" "z" "" "z" "u:z" (some 1) [] [] []]::.inst 365 Z01::Z40 [])) .n))))))
end
theorem keys_mem {sc:SS} {x:Str} (h:x∈sortS (sc.map (·.1))):look x sc=some (getS x sc):=look_key ((sortS_perm _).mem_iff.mp h)
theorem keysX_len (sc:SS):(keysX sc).length≤sc.length:=by
 rw [keysX,List.length_map]
 exact Nat.le_trans (List.length_filter_le ..) (Nat.le_of_eq (by rw [(sortS_perm _).length_eq,List.length_map]))
theorem oneIf {g:Cx} {n:Nat} {sc:Scope} {vs:Vars} {ifs:List Expr} {a:Hp} {b:Bool} {e:Expr} (h:[e]=ifs) (H:TvR g n sc vs e a b a):TcR g n sc vs ifs a b a:=h▸.one H
noncomputable abbrev Z36:Vars:=[("state",L2),("left_out",L12)]
noncomputable abbrev Z1c:List Nat:=[0,1,2,3,4,5,6,7,8,9,10,11]
noncomputable abbrev Z4i (a:List El) (b:Nat) (r:Hp):Hp:=.dss (scopeN a (b+1))::.txs (goneN a (b+1))::r
noncomputable abbrev Z3y:List Str:=["state","element","scopes","left_out","pairs"]
noncomputable abbrev Z4g (a:List El) (b:Nat) (r:Hp):Hp:=.txs (goneN a (b+1))::.prs (keysX (scopeN a (b+1)))::r
noncomputable abbrev Z37:Vars:=[("state",L7),("left_out",L17)]
section
variable {g:Cx} (G:Gl g TT) (n:Nat)
include G
theorem ts0_t1 {t:List Row} {al:SS} {sc:SS} {gn ks:List Str} {p:Str} {b:Bool} (h:strB p (Q_ "xml")=b):TvR g (n+1) (cSc (exF 205 [1] 2 [])) (setL "prefix" (.str p) [("scope",L12)]) (cIf (exF 205 [1] 2 []) 0) (.tree t::.dss al::Z43 [.dss [],.dss sc,.txs gn,.txs ks]) (!b) (.tree t::.dss al::Z43 [.dss [],.dss sc,.txs gn,.txs ks]):=
 .gz G [.b (!b)] (.c (congrArg not h) .n)
theorem ts0_e1 {t:List Row} {al:SS} {sc:SS} {gn ks:List Str} {p q:Str} (h:look p sc=some q):EvR g (n+1) (cSc (exF 205 [1] 2 [])) (setL "prefix" (.str p) [("scope",L12)]) (cElt (exF 205 [1] 2 [])) (.tree t::.dss al::Z43 [.dss [],.dss sc,.txs gn,.txs ks]) (.tup [.str p,.str q]) (.tree t::.dss al::Z43 [.dss [],.dss sc,.txs gn,.txs ks]):=
 .gz G [.v (.str q)] (.c h .n)
theorem ts0_c1 {t:List Row} {al:SS} {sc:SS} {gn:List Str}:CoL g (n+1) (cSc (exF 205 [1] 2 [])) (cGen (exF 205 [1] 2 [])).target (cElt (exF 205 [1] 2 [])) (cGen (exF 205 [1] 2 [])).ifs (.lst L14) (.tree t::.dss al::Z43 [.dss [],.dss sc,.txs gn,.txs (sortS (sc.map (·.1)))]) (sortS (sc.map (·.1))).length 0 [("scope",L12)] (.tree t::.dss al::Z43 [.dss [],.dss sc,.txs gn,.txs (sortS (sc.map (·.1)))]) (prsAV (keysX sc)):=by
 have e:=outX_eq sc (sortS (sc.map (·.1)))
 rw [show prsAV (keysX sc)=_ from e.symm]
 refine .same1 (k:=Q_ "prefix") .str (outX sc) (by kernel_rfl) (by kernel_rfl) (listOf_of (o:=.txs _) rfl rfl) (fun p hp z=>?_) fun p hp y z=>?_
 ·cases hb:strB p "xml" with
 |false=>rw [outX,hb] at z;cases z
 |true=>exact oneIf (by kernel_rfl) (ts0_t1 G n hb)
 ·cases hb:strB p "xml" with
 |true=>rw [outX,hb] at z;cases z
 |false=>
   rw [outX,hb] at z
   obtain rfl:=Option.some.inj z
   exact ⟨oneIf (by kernel_rfl) (ts0_t1 G n hb),ts0_e1 G n (keys_mem hp)⟩
theorem ts0_t2 {t:List Row} {al:SS} {gn:List Str} {ps:SS} {p u:Str} {b:Bool} (h:inB u gn=b):TvR g (n+3) (cSc (exF 205 [1] 3 [])) (setL "uri" (.str u) (setL "prefix" (.str p) Z36)) (cIf (exF 205 [1] 3 []) 0) (.tree t::.dss al::Z43 [.dss [],.txs gn,.prs ps]) (!b) (.tree t::.dss al::Z43 [.dss [],.txs gn,.prs ps]):=
 .gz G [.b (!b)] (.c (congrArg not h) .n)
theorem ts0_e2 {t:List Row} {al:SS} {gn:List Str} {ps:SS} {p u:Str}:EvR g (n+3) (cSc (exF 205 [1] 3 [])) (setL "uri" (.str u) (setL "prefix" (.str p) Z36)) (cElt (exF 205 [1] 3 [])) (.tree t::.dss al::Z43 [.dss [],.txs gn,.prs ps]) (.tup [.str p,.str ((look u al).getD u)]) (.tree t::.dss al::Z43 [.dss [],.txs gn,.prs ps]):=
 .gz G [.call Z1c (.str ((look u al).getD u)) (.tree t::.dss al::Z43 [.dss []])] (.c (alias0_cr G (n+1):CR g (n+3) 200 [L2,.str u] (.tree t::.dss al::Z43 [.dss []]) (.str ((look u al).getD u)) (.tree t::.dss al::Z43 [.dss []])) .n)
theorem ts0_c2 {t:List Row} {al:SS} {gn:List Str} {ps:SS}:CoL g (n+3) (cSc (exF 205 [1] 3 [])) (cGen (exF 205 [1] 3 [])).target (cElt (exF 205 [1] 3 [])) (cGen (exF 205 [1] 3 [])).ifs (.lst L13) (.tree t::.dss al::Z43 [.dss [],.txs gn,.prs ps]) ps.length 0 Z36 (.tree t::.dss al::Z43 [.dss [],.txs gn,.prs ps]) (prsAV ((ps.filter fun p=>!inB p.2 gn).map fun p=>(p.1,(look p.2 al).getD p.2))):=by
 rw [← outG_eq]
 refine .same2 (k:=Q_ "prefix") (k':=Q_ "uri") (outG gn al) (by kernel_rfl) (by kernel_rfl) (by kernel_rfl) (listOf_of (o:=.prs _) rfl rfl) (fun p hp z=>?_) fun p hp y z=>?_
 ·cases hb:inB p.2 gn with
 |false=>rw [outG,hb] at z;cases z
 |true=>exact oneIf (by kernel_rfl) (ts0_t2 G n hb)
 ·cases hb:inB p.2 gn with
 |true=>rw [outG,hb] at z;cases z
 |false=>
   rw [outG,hb] at z
   obtain rfl:=Option.some.inj z
   exact ⟨oneIf (by kernel_rfl) (ts0_t2 G n hb),ts0_e2 G n⟩
theorem told0_cr {t:List Row} {al:SS} {es:List El} {k:Nat} (tv:TV t es) (fw:Few es) (hk:k≤es.length) (wd:∀ i e,es[i]?=some e→i<k→WdOk es i e) (hg:(goneN es (k+1)).length≤1000) (hs:(scopeN es (k+1)).length<60):CR g (n+8) 205 [L2,.nat k] (.tree t::.dss al::Z43 [.dss []]) L12 ([.tree t,.dss al,.inst 668 Z0g,.dss [],.dss [],.inst 668 Z0d,.dss [],.dss [],.dictI [(Int.ofNat k,L12)],.inst 668 Z0l,.dss [],.dss [],.prs (List.map (fun p=>(p.fst,(look p.snd al).getD p.snd)) (List.filter (fun p=>!inB p.snd (goneN es (k+1))) (keysX (scopeN es (k+1)))))]):=
 .gz G [.c,.call [0] L1 [.tree t,.dss (scopeN es (k+1))],.call [0] L1 [.tree t,.txs (goneN es (k+1))],.o,.comp (sortS (List.map (fun x=>x.fst) (scopeN es (k+1)))).length (prsAV (keysX (scopeN es (k+1)))) (.prs (keysX (scopeN es (k+1)))) (.tree t::.dss al::Z43 (.dss []::Z4i es k [.txs (sortS (List.map (fun x=>x.fst) (scopeN es (k+1))))])),.gc [0,1,2,3,4,5,6,7,8,9,10,11,13,15] Z3y,.comp (keysX (scopeN es (k+1))).length (prsAV (List.map (fun p=>(p.fst,(look p.snd al).getD p.snd)) (List.filter (fun p=>!inB p.snd (goneN es (k+1))) (keysX (scopeN es (k+1)))))) (.prs (List.map (fun p=>(p.fst,(look p.snd al).getD p.snd)) (List.filter (fun p=>!inB p.snd (goneN es (k+1))) (keysX (scopeN es (k+1)))))) (.tree t::.dss al::Z43 (.dss []::Z4g es k [])),.c,.s,.gc [0,1,2,3,4,5,6,7,8,9,10,11,14] ["element","scopes"],.v L12] (.c (scope_cr G (n+2) tv fw hk) (.c (exc_cr G (n+1) tv fw hk wd hg) (.c ((Nat.ble_eq_true_of_le hs)) (.c (ts0_c1 G (n+6):CoL g (n+6+1) (cSc (exF 205 [1] 2 [])) (cGen (exF 205 [1] 2 [])).target (cElt (exF 205 [1] 2 [])) (cGen (exF 205 [1] 2 [])).ifs (Src.lst L14) (.tree t::.dss al::Z43 (.dss []::Z4i es k [.txs (sortS (List.map (fun x=>x.fst) (scopeN es (k+1))))])) (sortS (List.map (fun x=>x.fst) (scopeN es (k+1)))).length 0 [("scope",L12)] (.tree t::.dss al::Z43 (.dss []::Z4i es k [.txs (sortS (List.map (fun x=>x.fst) (scopeN es (k+1))))])) (prsAV (keysX (scopeN es (k+1))))) (.c ((by rw [(sortS_perm _).length_eq,List.length_map];exact Nat.le_trans (Nat.le_of_lt hs) (Nat.le_of_ble_eq_true rfl)):(sortS (List.map (fun x=>x.fst) (scopeN es (k+1)))).length≤1000000) (.c (rfl:some (prsAV (keysX (scopeN es (k+1))))=some (prsAV (keysX (scopeN es (k+1))))) (.c (ts0_c2 G (n+4):CoL g (n+6+1) (cSc (exF 205 [1] 3 [])) (cGen (exF 205 [1] 3 [])).target (cElt (exF 205 [1] 3 [])) (cGen (exF 205 [1] 3 [])).ifs (Src.lst L13) (.tree t::.dss al::Z43 (.dss []::Z4g es k [])) (keysX (scopeN es (k+1))).length 0 Z36 (.tree t::.dss al::Z43 (.dss []::Z4g es k [])) (prsAV (List.map (fun p=>(p.fst,(look p.snd al).getD p.snd)) (List.filter (fun p=>!inB p.snd (goneN es (k+1))) (keysX (scopeN es (k+1))))))) (.c ((Nat.le_trans (keysX_len _) (Nat.le_trans (Nat.le_of_lt hs) (Nat.le_of_ble_eq_true rfl))):(keysX (scopeN es (k+1))).length≤1000000) (.c (rfl:some (prsAV (List.map (fun p=>(p.fst,(look p.snd al).getD p.snd)) (List.filter (fun p=>!inB p.snd (goneN es (k+1))) (keysX (scopeN es (k+1))))))=some (prsAV (List.map (fun p=>(p.fst,(look p.snd al).getD p.snd)) (List.filter (fun p=>!inB p.snd (goneN es (k+1))) (keysX (scopeN es (k+1))))))) (.c (if_pos rfl:lookI (Int.ofNat k) [(Int.ofNat k,L12)]=some L12) .n))))))))))
theorem ts1_t1 {t m:List Row} {al:SS} {sc:SS} {gn ks:List Str} {p:Str} {b:Bool} (h:strB p (Q_ "xml")=b):TvR g (n+1) (cSc (exF 205 [1] 2 [])) (setL "prefix" (.str p) [("scope",L17)]) (cIf (exF 205 [1] 2 []) 0) (.tree t::.dss al::.tree m::.inst 365 Z09::Z40 (Z44 (.dictI []::Z47 [.dss sc,.txs gn,.txs ks]))) (!b) (.tree t::.dss al::.tree m::.inst 365 Z09::Z40 (Z44 (.dictI []::Z47 [.dss sc,.txs gn,.txs ks]))):=
 .gz G [.b (!b)] (.c (congrArg not h) .n)
theorem ts1_e1 {t m:List Row} {al:SS} {sc:SS} {gn ks:List Str} {p q:Str} (h:look p sc=some q):EvR g (n+1) (cSc (exF 205 [1] 2 [])) (setL "prefix" (.str p) [("scope",L17)]) (cElt (exF 205 [1] 2 [])) (.tree t::.dss al::.tree m::.inst 365 Z09::Z40 (Z44 (.dictI []::Z47 [.dss sc,.txs gn,.txs ks]))) (.tup [.str p,.str q]) (.tree t::.dss al::.tree m::.inst 365 Z09::Z40 (Z44 (.dictI []::Z47 [.dss sc,.txs gn,.txs ks]))):=
 .gz G [.v (.str q)] (.c h .n)
theorem ts1_c1 {t m:List Row} {al:SS} {sc:SS} {gn:List Str}:CoL g (n+1) (cSc (exF 205 [1] 2 [])) (cGen (exF 205 [1] 2 [])).target (cElt (exF 205 [1] 2 [])) (cGen (exF 205 [1] 2 [])).ifs (.lst L19) (.tree t::.dss al::.tree m::.inst 365 Z09::Z40 (Z44 (.dictI []::Z47 [.dss sc,.txs gn,.txs (sortS (sc.map (·.1)))]))) (sortS (sc.map (·.1))).length 0 [("scope",L17)] (.tree t::.dss al::.tree m::.inst 365 Z09::Z40 (Z44 (.dictI []::Z47 [.dss sc,.txs gn,.txs (sortS (sc.map (·.1)))]))) (prsAV (keysX sc)):=by
 have e:=outX_eq sc (sortS (sc.map (·.1)))
 rw [show prsAV (keysX sc)=_ from e.symm]
 refine .same1 (k:=Q_ "prefix") .str (outX sc) (by kernel_rfl) (by kernel_rfl) (listOf_of (o:=.txs _) rfl rfl) (fun p hp z=>?_) fun p hp y z=>?_
 ·cases hb:strB p "xml" with
 |false=>rw [outX,hb] at z;cases z
 |true=>exact oneIf (by kernel_rfl) (ts1_t1 G n hb)
 ·cases hb:strB p "xml" with
 |true=>rw [outX,hb] at z;cases z
 |false=>
   rw [outX,hb] at z
   obtain rfl:=Option.some.inj z
   exact ⟨oneIf (by kernel_rfl) (ts1_t1 G n hb),ts1_e1 G n (keys_mem hp)⟩
theorem ts1_t2 {t m:List Row} {al:SS} {gn:List Str} {ps:SS} {p u:Str} {b:Bool} (h:inB u gn=b):TvR g (n+3) (cSc (exF 205 [1] 3 [])) (setL "uri" (.str u) (setL "prefix" (.str p) Z37)) (cIf (exF 205 [1] 3 []) 0) (.tree t::.dss al::.tree m::.inst 365 Z09::Z40 (Z44 (.dictI []::Z47 [.txs gn,.prs ps]))) (!b) (.tree t::.dss al::.tree m::.inst 365 Z09::Z40 (Z44 (.dictI []::Z47 [.txs gn,.prs ps]))):=
 .gz G [.b (!b)] (.c (congrArg not h) .n)
theorem ts1_e2 {t m:List Row} {al:SS} {gn:List Str} {ps:SS} {p u:Str}:EvR g (n+3) (cSc (exF 205 [1] 3 [])) (setL "uri" (.str u) (setL "prefix" (.str p) Z37)) (cElt (exF 205 [1] 3 [])) (.tree t::.dss al::.tree m::.inst 365 Z09::Z40 (Z44 (.dictI []::Z47 [.txs gn,.prs ps]))) (.tup [.str p,.str ((look u al).getD u)]) (.tree t::.dss al::.tree m::.inst 365 Z09::Z40 (Z44 (.dictI []::Z47 [.txs gn,.prs ps]))):=
 .gz G [.call [0,1,2,3,4,5,6,7,8,9,10,11,12,13,14,15,16] (.str ((look u al).getD u)) (Z02 t al m)] (.c (alias1_cr G (n+1):CR g (n+3) 200 [L7,.str u] (Z02 t al m) (.str ((look u al).getD u)) (Z02 t al m)) .n)
theorem ts1_c2 {t m:List Row} {al:SS} {gn:List Str} {ps:SS}:CoL g (n+3) (cSc (exF 205 [1] 3 [])) (cGen (exF 205 [1] 3 [])).target (cElt (exF 205 [1] 3 [])) (cGen (exF 205 [1] 3 [])).ifs (.lst L18) (.tree t::.dss al::.tree m::.inst 365 Z09::Z40 (Z44 (.dictI []::Z47 [.txs gn,.prs ps]))) ps.length 0 Z37 (.tree t::.dss al::.tree m::.inst 365 Z09::Z40 (Z44 (.dictI []::Z47 [.txs gn,.prs ps]))) (prsAV ((ps.filter fun p=>!inB p.2 gn).map fun p=>(p.1,(look p.2 al).getD p.2))):=by
 rw [← outG_eq]
 refine .same2 (k:=Q_ "prefix") (k':=Q_ "uri") (outG gn al) (by kernel_rfl) (by kernel_rfl) (by kernel_rfl) (listOf_of (o:=.prs _) rfl rfl) (fun p hp z=>?_) fun p hp y z=>?_
 ·cases hb:inB p.2 gn with
 |false=>rw [outG,hb] at z;cases z
 |true=>exact oneIf (by kernel_rfl) (ts1_t2 G n hb)
 ·cases hb:inB p.2 gn with
 |true=>rw [outG,hb] at z;cases z
 |false=>
   rw [outG,hb] at z
   obtain rfl:=Option.some.inj z
   exact ⟨oneIf (by kernel_rfl) (ts1_t2 G n hb),ts1_e2 G n⟩
theorem told1_cr {t m:List Row} {al:SS} {es:List El} {k:Nat} (tv:TV t es) (fw:Few es) (hk:k≤es.length) (wd:∀ i e,es[i]?=some e→i<k→WdOk es i e) (hg:(goneN es (k+1)).length≤1000) (hs:(scopeN es (k+1)).length<60):CR g (n+8) 205 [L7,.nat k] (Z02 t al m) L17 ((.tree t::.dss al::.tree m::.inst 365 Z09::Z40 (Z44 (.dictI [(Int.ofNat k,L17)]::Z47 [.prs (List.map (fun p=>(p.fst,(look p.snd al).getD p.snd)) (List.filter (fun p=>!inB p.snd (goneN es (k+1))) (keysX (scopeN es (k+1)))))])))):=
 .gz G [.c,.call [0] L1 [.tree t,.dss (scopeN es (k+1))],.call [0] L1 [.tree t,.txs (goneN es (k+1))],.o,.comp (sortS (List.map (fun x=>x.fst) (scopeN es (k+1)))).length (prsAV (keysX (scopeN es (k+1)))) (.prs (keysX (scopeN es (k+1)))) (.tree t::.dss al::.tree m::.inst 365 Z09::Z40 (Z44 (.dictI []::Z47 (Z4i es k [.txs (sortS (List.map (fun x=>x.fst) (scopeN es (k+1))))])))),.gc [0,1,2,3,4,5,6,7,8,9,10,11,12,13,14,15,16,18,20] Z3y,.comp (keysX (scopeN es (k+1))).length (prsAV (List.map (fun p=>(p.fst,(look p.snd al).getD p.snd)) (List.filter (fun p=>!inB p.snd (goneN es (k+1))) (keysX (scopeN es (k+1)))))) (.prs (List.map (fun p=>(p.fst,(look p.snd al).getD p.snd)) (List.filter (fun p=>!inB p.snd (goneN es (k+1))) (keysX (scopeN es (k+1)))))) (.tree t::.dss al::.tree m::.inst 365 Z09::Z40 (Z44 (.dictI []::Z47 (Z4g es k [])))),.c,.s,.gc [0,1,2,3,4,5,6,7,8,9,10,11,12,13,14,15,16,19] ["element","scopes"],.v L17] (.c (scope_cr G (n+2) tv fw hk:CR g (n+6+1) 178 [L0,.nat k] [.tree t] L1 [.tree t,.dss (scopeN es (k+1))]) (.c (exc_cr G (n+1) tv fw hk wd hg:CR g (n+6+1) 193 [L0,.nat k] [.tree t] L1 [.tree t,.txs (goneN es (k+1))]) (.c ((Nat.ble_eq_true_of_le hs):(scopeN es (k+1)).length.blt 60=true) (.c (ts1_c1 G (n+6):CoL g (n+6+1) (cSc (exF 205 [1] 2 [])) (cGen (exF 205 [1] 2 [])).target (cElt (exF 205 [1] 2 [])) (cGen (exF 205 [1] 2 [])).ifs (Src.lst L19) (.tree t::.dss al::.tree m::.inst 365 Z09::Z40 (Z44 (.dictI []::Z47 (Z4i es k [.txs (sortS (List.map (fun x=>x.fst) (scopeN es (k+1))))])))) (sortS (List.map (fun x=>x.fst) (scopeN es (k+1)))).length 0 [("scope",L17)] (.tree t::.dss al::.tree m::.inst 365 Z09::Z40 (Z44 (.dictI []::Z47 (Z4i es k [.txs (sortS (List.map (fun x=>x.fst) (scopeN es (k+1))))])))) (prsAV (keysX (scopeN es (k+1))))) (.c ((by rw [(sortS_perm _).length_eq,List.length_map];exact Nat.le_trans (Nat.le_of_lt hs) (Nat.le_of_ble_eq_true rfl)):(sortS (List.map (fun x=>x.fst) (scopeN es (k+1)))).length≤1000000) (.c (rfl:some (prsAV (keysX (scopeN es (k+1))))=some (prsAV (keysX (scopeN es (k+1))))) (.c (ts1_c2 G (n+4):CoL g (n+6+1) (cSc (exF 205 [1] 3 [])) (cGen (exF 205 [1] 3 [])).target (cElt (exF 205 [1] 3 [])) (cGen (exF 205 [1] 3 [])).ifs (Src.lst L18) (.tree t::.dss al::.tree m::.inst 365 Z09::Z40 (Z44 (.dictI []::Z47 (Z4g es k [])))) (keysX (scopeN es (k+1))).length 0 Z37 (.tree t::.dss al::.tree m::.inst 365 Z09::Z40 (Z44 (.dictI []::Z47 (Z4g es k [])))) (prsAV (List.map (fun p=>(p.fst,(look p.snd al).getD p.snd)) (List.filter (fun p=>!inB p.snd (goneN es (k+1))) (keysX (scopeN es (k+1))))))) (.c ((Nat.le_trans (keysX_len _) (Nat.le_trans (Nat.le_of_lt hs) (Nat.le_of_ble_eq_true rfl))):(keysX (scopeN es (k+1))).length≤1000000) (.c (rfl:some (prsAV (List.map (fun p=>(p.fst,(look p.snd al).getD p.snd)) (List.filter (fun p=>!inB p.snd (goneN es (k+1))) (keysX (scopeN es (k+1))))))=some (prsAV (List.map (fun p=>(p.fst,(look p.snd al).getD p.snd)) (List.filter (fun p=>!inB p.snd (goneN es (k+1))) (keysX (scopeN es (k+1))))))) (.c (if_pos rfl:lookI (Int.ofNat k) [(Int.ofNat k,L17)]=some L17) .n))))))))))
end
section
noncomputable def rootR:Row:=Row.mk (Str.ofString "root") (Str.ofString "") (Str.ofString "") (Str.ofString "") (Str.ofString "") none [1] [] []
noncomputable def elR (k:Nat):Row:=Row.mk (Str.ofString "element") (Str.ofString "z:e") (Str.ofString "u:z") (Str.ofString "e") (Str.ofString "") (some 0) [] [] (List.range' 2 k)
noncomputable def nsR (p:Str×Str):Row:=Row.mk (Str.ofString "namespace") p.1 (Str.ofString "") p.1 p.2 (some 1) [] [] []
noncomputable def madeR (ps:SS):List Row:=rootR::elR ps.length::ps.map nsR
theorem madeR_len (ps:SS):(madeR ps).length=ps.length+2:=congrArg (·+2) (List.length_map ..)
theorem madeR_at {ps:SS} {i:Nat} {p:Str×Str} (h:ps[i]?=some p):(madeR ps)[i+2]?=some (nsR p):=by
 show (ps.map nsR)[i]?=_
 rw [List.getElem?_map,h];rfl
theorem elR_at {k i j:Nat} (h:(elR k).ns[i]?=some j):i<k∧j=i+2:=by
 have h:(List.range' 2 k)[i]?=some j:=h
 obtain ⟨h1,h2⟩:=List.getElem?_eq_some_iff.mp h
 rw [List.length_range'] at h1
 rw [List.getElem_range'] at h2
 exact ⟨h1,by omega⟩
theorem madeR_ns {ps:SS}:NsOk (madeR ps) (elR ps.length).ns ps:=by
 refine ⟨List.length_range' ..,fun i k h=>?_⟩
 obtain ⟨h1,rfl⟩:=elR_at h
 exact ⟨nsR ps[i],ps[i],madeR_at (List.getElem?_eq_getElem h1),List.getElem?_eq_getElem h1,rfl,rfl,rfl⟩
theorem madeR_add (ps:SS) (p u:Str):((madeR ps++[nsR (p,u)]).set 1 (rowP (madeR ps).length .nss (elR ps.length)))=madeR (ps++[(p,u)]):=by
 have e:rowP (madeR ps).length .nss (elR ps.length)=elR (ps++[(p,u)]).length:=by
  show Row.mk _ _ _ _ _ _ _ _ (List.range' 2 ps.length++[(madeR ps).length])=Row.mk _ _ _ _ _ _ _ _ (List.range' 2 (ps++[(p,u)]).length)
  rw [madeR_len,List.length_append,List.length_singleton,List.range'_concat,Nat.one_mul,Nat.add_comm]
  rfl
 rw [e]
 show rootR::elR (ps++[(p,u)]).length::(ps.map nsR++[nsR (p,u)])=rootR::elR (ps++[(p,u)]).length::(ps++[(p,u)]).map nsR
 rw [List.map_append];rfl
structure DueOk (ps D:SS):Prop where
 new:∀ j x,D[j]?=some x→look x.1 (ps++D.take j)=none
 uri:∀ x∈D,strB x.2 (Str.ofString "")=false
 pfx:∀ x∈D,strB x.1 (Str.ofString "xml")=false∧strB x.1 (Str.ofString "xmlns")=false∧strB x.1 (Str.ofString "z")=false
 len:ps.length+D.length<100
theorem inB_false {x:Str} {l:List Str} (h:∀ y∈l,strB x y=false):inB x l=false:=by
 induction l with
|nil=>rfl
|cons y r ih=>
  show (strB y x||inB x r)=false
  rw [strB_comm,h y (.head _),ih fun z hz=>h z (.tail _ hz)];rfl
theorem look_inB {p:Str} {ps:SS} (h:look p ps=none):inB p (ps.map (·.1))=false:=inB_false fun y hy=>by
 obtain ⟨q,hq,rfl⟩:=List.mem_map.mp hy
 exact look_none h q hq
end
section
variable {g:Cx} (G:Gl g TT) (n:Nat)
include G
theorem ns_cr (X:Orc g n) {ps:SS} {p u:Str} (hn:look p ps=none) (hu:strB u (Str.ofString "")=false) (hp:strB p (Str.ofString "xml")=false∧strB p (Str.ofString "xmlns")=false∧strB p (Str.ofString "z")=false) (hl:ps.length<100):
  CR g (n+7) 306 [.loc 1 .root,.str p,.str u] (.tree (madeR ps)::.inst 365 [(Str.ofString "tree",.loc 0 .root),(Str.ofString "root",.nat 0),(Str.ofString "open",.loc 2 .root),(Str.ofString "has_children",.loc 3 .root),(Str.ofString "pending",.loc 4 .root)]::Z40 []) .none
   (.tree (madeR (ps++[(p,u)]))::.inst 365 [(Str.ofString "tree",.loc 0 .root),(Str.ofString "root",.nat 0),(Str.ofString "open",.loc 2 .root),(Str.ofString "has_children",.loc 3 .root),(Str.ofString "pending",.loc 4 .root)]::Z40 []):=by
 rw [← madeR_add]
 have h1:Nat.blt (madeR ps).length cap=true:=Nat.ble_eq_true_of_le (by rw [madeR_len];exact Nat.le_trans (Nat.add_le_add_right hl 2) (Nat.le_of_ble_eq_true rfl))
 have h2:(elR ps.length).ns.length≤1000:=by
  rw [show (elR ps.length).ns=List.range' 2 ps.length from rfl,List.length_range'];exact Nat.le_trans (Nat.le_of_lt hl) (Nat.le_of_ble_eq_true rfl)
 have h3:∀ j∈(elR ps.length).ns,∃ s,(madeR ps)[j]?=some s∧strB s.name p=false:=fun j hj=>by
  obtain ⟨i,hi⟩:=List.getElem?_of_mem hj
  obtain ⟨k1,rfl⟩:=elR_at hi
  exact ⟨_,madeR_at (List.getElem?_eq_getElem k1),(strB_comm _ _).trans (look_none hn _ (List.getElem_mem k1))⟩
 have h4:strB (getS p ps) u=false:=by unfold getS;rw [hn,strB_comm];exact hu
 cases e:strB p (Str.ofString "") with
|true=>exact ns1_cr G n X h1 rfl rfl rfl rfl madeR_ns h2 h3 hp.1 h4 (look_inB hn) e
|false=>exact ns2_cr G n X h1 rfl rfl rfl rfl madeR_ns h2 h3 hp.1 h4 (look_inB hn) e hu (inB_false fun y hy=>by
   rcases List.mem_cons.mp hy with rfl|hy
   ·exact e
   ·rcases List.mem_cons.mp hy with rfl|hy
    ·exact hp.1
    ·rw [List.mem_singleton.mp hy];exact hp.2.1) (inB_false fun y hy=>List.mem_singleton.mp hy▸hp.2.2)
end
noncomputable abbrev Z00 (a:List Row) (b:SS) (c:List Row) (d:Nat) (e:SS):Hp:=(.tree a::.dss b::.tree c::.inst 365 Z09::Z40 (Z44 (.dictI [(Int.ofNat d,L17)]::Z47 [.prs e])))
noncomputable abbrev Z2o:List Nat:=[0,1,2,3,4,5,6,7,8,9,10,11,12,13,14,15,16,17]
noncomputable abbrev Z2e (a:Nat):Vars:=[("state",L7),("element",.nat a)]
section
variable {g:Cx} (G:Gl g TT) (n:Nat)
include G
theorem told2_cr {t m:List Row} {al D:SS} {k:Nat}:CR g (n+2) 205 [L7,.nat k] (Z00 t al m k D) L17 ((Z00 t al m k D)):=
 .gz G [.b false,.v L17,.gc Z2o []] (.c ((by rw [show lookI (Int.ofNat k) [(Int.ofNat k,L17)]=some L17 from if_pos rfl];rfl):(!(lookI (Int.ofNat k) [(Int.ofNat k,L17)]).isSome)=false) (.c (if_pos rfl:lookI (Int.ofNat k) [(Int.ofNat k,L17)]=some L17) .n))
theorem tell_turn (X:Orc g n) {t:List Row} {al D ps:SS} {k:Nat} {p u:Str} (hn:look p ps=none) (hu:strB u (Q_ "")=false) (hp:strB p (Q_ "xml")=false∧strB p (Q_ "xmlns")=false∧strB p (Q_ "z")=false) (hl:ps.length<100):SsR g (n+7) (fun i=>i<18) (scF 212) (setL "uri" (.str u) (setL "prefix" (.str p) (Z2e k))) (ssF 212 [0]) (.tree t::.dss al::.tree (madeR ps)::.inst 365 Z09::Z40 (Z44 (.dictI [(Int.ofNat k,L17)]::Z47 [.prs D]))) .next ((Z2e k)) ((.tree t::.dss al::.tree (rootR::elR (ps++[(p,u)]).length::List.map nsR (ps++[(p,u)]))::.inst 365 Z09::Z40 (Z44 (.dictI [(Int.ofNat k,L17)]::Z47 [.prs D])))):=
 .gz G [.call [2,3,4,5,6] (.none) (.tree (rootR::elR (ps++[(p,u)]).length::List.map nsR (ps++[(p,u)]))::.inst 365 Z01::Z40 []),.gc Z2o ["state","element"]] (.c (ns_cr G n X hn hu hp hl) .n)
theorem tell_loop (X:Orc g n) {t:List Row} {al D ps:SS} {k:Nat} (H:DueOk ps D):
  ∃ kk,LoR g (n+7) (fun i=>i<18) (scF 212) (forT (stF 212 [] 0)) (ssF 212 [0]) (.lst L17) .next (Z2e k) (.tree t::.dss al::.tree (madeR (ps++D))::.inst 365 Z09::Z40 (Z44 (.dictI [(Int.ofNat k,L17)]::Z47 [.prs D]))) kk 0 (Z2e k) (.tree t::.dss al::.tree (madeR ps)::.inst 365 Z09::Z40 (Z44 (.dictI [(Int.ofNat k,L17)]::Z47 [.prs D]))):=by
 have L:=LoR.all (g:=g) (n:=n+7) (D:=fun i=>i<18) (sc:=scF 212) (tgt:=forT (stF 212 [] 0)) (body:=ssF 212 [0]) (src:=.lst L17) (fun _=>(Z2e k)) (fun j=>(.tree t::.dss al::.tree (madeR (ps++D.take j))::.inst 365 Z09::Z40 (Z44 (.dictI [(Int.ofNat k,L17)]::Z47 [.prs D])))) (j:=D.length) (fun j hj=>?_) ?_
 ·rw [List.take_length,show ps++D.take 0=ps from List.append_nil _] at L;exact L
 ·have hx:=List.getElem?_eq_getElem hj
  have hm:=List.getElem_mem hj
  refine ⟨.tup [.str D[j].1,.str D[j].2],_,(srcAt_lst (listOf_of (o:=.prs D) rfl rfl)).trans (by rw [prsAV,List.getElem?_map,hx];rfl),.nm2 (k:=Q_ "prefix") (k':=Q_ "uri") (by kernel_rfl),?_⟩
  rw [List.take_succ_eq_append_getElem hj,← List.append_assoc]
  refine tell_turn G n X (H.new j _ hx) (H.uri _ hm) (H.pfx _ hm) ?_
  have:=H.len
  rw [List.length_append,List.length_take];omega
 ·exact (srcAt_lst (listOf_of (o:=.prs D) rfl rfl)).trans (by rw [List.getElem?_eq_none_iff.mpr (by rw [prsAV,List.length_map];exact Nat.le_refl _)])
theorem tell_cr (X:Orc g n) {t:List Row} {al D ps:SS} {k:Nat} (H:DueOk ps D):CR g (n+8) 212 [L7,.nat k] (.tree t::.dss al::.tree (madeR ps)::.inst 365 Z09::Z40 (Z44 (.dictI [(Int.ofNat k,L17)]::Z47 [.prs D]))) (.none) ((.tree t::.dss al::.tree (rootR::elR (ps++D).length::List.map nsR (ps++D))::.inst 365 Z09::Z40 (Z44 (.dictI [(Int.ofNat k,L17)]::Z47 [.prs D])))):=
 .gz G [.call Z2o L17 (.tree t::.dss al::.tree (rootR::elR ps.length::List.map nsR ps)::.inst 365 Z09::Z40 (Z44 (.dictI [(Int.ofNat k,L17)]::Z47 [.prs D]))),.loop .next (Z2e k) (.tree t::.dss al::.tree (rootR::elR (ps++D).length::List.map nsR (ps++D))::.inst 365 Z09::Z40 (Z44 (.dictI [(Int.ofNat k,L17)]::Z47 [.prs D])))] (.c (told2_cr G (n+5):CR g (n+6+1) 205 [L7,.nat k] (.tree t::.dss al::.tree (rootR::elR ps.length::List.map nsR ps)::.inst 365 Z09::Z40 (Z44 (.dictI [(Int.ofNat k,L17)]::Z47 [.prs D]))) L17 (.tree t::.dss al::.tree (rootR::elR ps.length::List.map nsR ps)::.inst 365 Z09::Z40 (Z44 (.dictI [(Int.ofNat k,L17)]::Z47 [.prs D])))) (.c (tell_loop G n X H:∃ k_1,LoR g (n+6+1) (fun i=>i<18) (scF 212) (forT (stF 212 [] 0)) (ssF 212 [0]) (Src.lst L17) Fl.next [(Q_ "state",L7),(Q_ "element",AV.nat k)] [AObj.tree t,AObj.dss al,AObj.tree (rootR::elR (ps++D).length::List.map nsR (ps++D)),AObj.inst 365 [(Q_ "tree",L2),(Q_ "root",AV.nat 0),(Q_ "open",L4),(Q_ "has_children",L5),(Q_ "pending",L6)],AObj.list [AV.nat 0,AV.nat 1],AObj.list [AV.val (Value.bool true),AV.val (Value.bool false)],AObj.txs [],AObj.inst 668 [(Q_ "outer",AV.val Value.none),(Q_ "params",L8),(Q_ "own",L9),(Q_ "work",L10),(Q_ "result",L3)],AObj.dss [],AObj.dss [],AObj.inst 668 [(Q_ "outer",AV.val Value.none),(Q_ "params",L11),(Q_ "own",L12),(Q_ "tree",L0),(Q_ "scopes",L13),(Q_ "sheet",L14)],AObj.dss [],AObj.dss [],AObj.dictI [(Int.ofNat k,L17)],AObj.inst 668 [(Q_ "outer",AV.val Value.none),(Q_ "params",L15),(Q_ "own",L16),(Q_ "aliases",L1)],AObj.dss [],AObj.dss [],AObj.prs D] k_1 0 [(Q_ "state",L7),(Q_ "element",AV.nat k)] [AObj.tree t,AObj.dss al,AObj.tree (rootR::elR ps.length::List.map nsR ps),AObj.inst 365 [(Q_ "tree",L2),(Q_ "root",AV.nat 0),(Q_ "open",L4),(Q_ "has_children",L5),(Q_ "pending",L6)],AObj.list [AV.nat 0,AV.nat 1],AObj.list [AV.val (Value.bool true),AV.val (Value.bool false)],AObj.txs [],AObj.inst 668 [(Q_ "outer",AV.val Value.none),(Q_ "params",L8),(Q_ "own",L9),(Q_ "work",L10),(Q_ "result",L3)],AObj.dss [],AObj.dss [],AObj.inst 668 [(Q_ "outer",AV.val Value.none),(Q_ "params",L11),(Q_ "own",L12),(Q_ "tree",L0),(Q_ "scopes",L13),(Q_ "sheet",L14)],AObj.dss [],AObj.dss [],AObj.dictI [(Int.ofNat k,L17)],AObj.inst 668 [(Q_ "outer",AV.val Value.none),(Q_ "params",L15),(Q_ "own",L16),(Q_ "aliases",L1)],AObj.dss [],AObj.dss [],AObj.prs D]) (.c (VIn.loc (Nat.le_of_ble_eq_true rfl):SrcIn (fun i=>i<18) (Src.lst L17)) .n)))
end
noncomputable abbrev Z33:Hp:=[.inst 576 [("rows",L1)],.list []]
noncomputable abbrev Z27:Vars:=[("tree",L3),("root",.nat 0),("open",L5),("has_children",L6),("pending",L7)]
noncomputable abbrev Z29:Vars:=[("outer",.none),("params",L9),("own",L10),("work",L11),("result",L4)]
noncomputable abbrev Z21:Vars:=[("outer",.none),("params",L12),("own",L13),("tree",L0),("scopes",L14),("sheet",L15)]
noncomputable abbrev Z2h:Vars:=[("outer",.none),("params",L16),("own",L17),("aliases",L1)]
noncomputable abbrev Z4h (a:Nat) (r:Hp):Hp:=.inst 668 Z29::.dss []::.dss []::.inst 668 Z21::.dss []::.dss []::.dictI [(Int.ofNat a,L18)]::.inst 668 Z2h::.dss []::r
noncomputable abbrev Z0j (a:List Row) (b c:SS) (d:List Row) (e:Nat) (f:List Nat):Hp:=(.tree a::.dss b::.prs c::.tree d::.inst 365 Z27::Z40 (Z4h e [.dss [],.prs c,.ixs f]))
noncomputable abbrev Z0e (a:List Row) (b c:SS) (d:List Row) (e:Nat) (f:SS):Hp:=(.tree a::.dss b::.prs c::.tree d::.inst 365 Z27::Z40 (Z4h e [.dss [],.prs c,.prs f]))
noncomputable abbrev Z2n:List Nat:=[0,1,3,4,5,6,7,8,9,10,11,12,13,14,15,16,17,18]
noncomputable abbrev Z0u (a:List Row) (b c:SS) (d:List Row) (e:Nat) (f:SS):Hp:=(.tree a::.dss b::.prs c::.tree d::.inst 365 [(Q_ "tree",.loc 3 .root),(Q_ "root",.nat 0),(Q_ "open",.loc 5 .root),(Q_ "has_children",.loc 6 .root),(Q_ "pending",.loc 7 .root)]::Z40 [.inst 668 [(Q_ "outer",.none),(Q_ "params",.loc 9 .root),(Q_ "own",.loc 10 .root),(Q_ "work",.loc 11 .root),(Q_ "result",.loc 4 .root)],.dss [],.dss [],.inst 668 [(Q_ "outer",.none),(Q_ "params",.loc 12 .root),(Q_ "own",.loc 13 .root),(Q_ "tree",.loc 0 .root),(Q_ "scopes",.loc 14 .root),(Q_ "sheet",.loc 15 .root)],.dss [],.dss [],.dictI [(Int.ofNat e,.loc 18 .root)],.inst 668 [(Q_ "outer",.none),(Q_ "params",.loc 16 .root),(Q_ "own",.loc 17 .root),(Q_ "aliases",.loc 1 .root)],.dss [],.dss [],.prs c,.prs f])
noncomputable abbrev Z28 (a:List Row) (b c:SS):Hp:=[.tree a,.dss b,.prs c]
noncomputable abbrev Z0s (a:List Row) (b c:SS) (d:List Row) (e:Nat) (f:Row):Hp:=(.tree a::.dss b::.prs c::.tree d::.inst 365 Z27::Z40 (Z4h e [.dss [],.prs c,.ixs f.ns]))
section
variable {g:Cx} (G:Gl g TT) (n:Nat)
include G
theorem tinit_cr :CR g (n+2) 405 [L0] [.inst 576 []] (.none) (Z33):=
 .gz G [.k 0] .n
theorem alias2_cr {t m:List Row} {al D:SS} {k:Nat} {u:Str}:CR g (n+2) 200 [L7,.str u] (Z00 t al m k D) (.str ((look u al).getD u)) ((Z00 t al m k D)):=
 .gz G [] .n
theorem tr_e1 {t m:List Row} {al D:SS} {k j:Nat} {M:List Nat} {r:Row} (h:m[j]?=some r):EvR g (n+3) (cSc (exF 735 [] 6 [])) (setL "node" (.nat j) [("made",L3)]) (cElt (exF 735 [] 6 [])) (Z0j t al D m k M) (.tup [.str r.name,.str r.value]) (Z0j t al D m k M):=
 .gz G [.call [3] (.str r.name) [.tree m],.call [3] (.str r.value) [.tree m]] (.c (name_cr G n h) (.c (value_cr G n h) .n))
omit G in
theorem outP_eq {m:List Row} {M:List Nat} {ps:SS} (H:NsOk m M ps):M.filterMap (fun j=>m[j]?.map fun r=>prAV (r.name,r.value))=prsAV ps:=by
 refine List.ext_getElem? fun i=>?_
 have e:M.filterMap (fun j=>m[j]?.map fun r=>prAV (r.name,r.value))=M.map fun j=>prAV ((m[j]?.map fun r=>(r.name,r.value)).getD ("","")):=by
  refine filterMap_some fun j hj=>?_
  obtain ⟨q,hq⟩:=List.getElem?_of_mem hj
  obtain ⟨w,x,h1,_⟩:=H.2 q j hq
  rw [h1];rfl
 rw [e,prsAV,List.getElem?_map,List.getElem?_map]
 cases hi:M[i]? with
|none=>rw [List.getElem?_eq_none_iff.mpr (H.1▸List.getElem?_eq_none_iff.mp hi)];rfl
|some j=>
  obtain ⟨w,x,h1,h2,h3,h4,_⟩:=H.2 i j hi
  rw [h2,Option.map_some,h1,Option.map_some,h3,h4];rfl
theorem tr_c1 {t m:List Row} {al D ps:SS} {k:Nat} {M:List Nat} (H:NsOk m M ps):CoL g (n+3) (cSc (exF 735 [] 6 [])) (cGen (exF 735 [] 6 [])).target (cElt (exF 735 [] 6 [])) (cGen (exF 735 [] 6 [])).ifs (.lst L19) (Z0j t al D m k M) M.length 0 [("made",L3)] (Z0j t al D m k M) (prsAV ps):=by
 rw [← outP_eq H]
 refine .same1 (k:=Q_ "node") .nat _ (by kernel_rfl) (by kernel_rfl) (listOf_of (o:=.ixs M) rfl rfl) (fun j hj e=>?_) fun j hj y e=>?_
 ·obtain ⟨q,hq⟩:=List.getElem?_of_mem hj
  obtain ⟨w,z,h1,_⟩:=H.2 q j hq
  rw [h1] at e;cases e
 ·obtain ⟨q,hq⟩:=List.getElem?_of_mem hj
  obtain ⟨w,z,h1,_⟩:=H.2 q j hq
  rw [h1] at e
  obtain rfl:=Option.some.inj e
  exact ⟨noIfs (by kernel_rfl),tr_e1 G n h1⟩
theorem tr_t2 {t m:List Row} {al D R:SS} {k:Nat} {u:Str}:TvR g (n+3) (cSc (exF 735 [] 7 [0])) (setL "uri" (.str u) [("aliases",L1),("state",L8)]) (cIf (exF 735 [] 7 [0]) 0) (Z0e t al D m k R) false (Z0e t al D m k R):=
 .gz G [.call Z2n (.str ((look u al).getD u)) (Z00 t al m k D),.b false] (.c (alias2_cr G (n+1):CR g (n+3) 200 [L7,.str u] (Z00 t al m k D) (.str ((look u al).getD u)) (Z00 t al m k D)) (.c (by rw [strB_self];rfl:(!strB ((look u al).getD u) ((look u al).getD u))=false) .n))
theorem tr_c2 {t m:List Row} {al D R:SS} {k:Nat}:CoL g (n+3) (cSc (exF 735 [] 7 [0])) (cGen (exF 735 [] 7 [0])).target (cElt (exF 735 [] 7 [0])) (cGen (exF 735 [] 7 [0])).ifs (.lst (.lst [.str (Q_ "u:1"),.str (Q_ "u:2"),.str (Q_ "u:3")])) (Z0u t al D m k R) 3 0 [(Q_ "aliases",.loc 1 .root),(Q_ "state",.loc 8 .root)] (Z0u t al D m k R) []:=
 .same1 (k:=Q_ "uri") (l:=[Q_ "u:1",Q_ "u:2",Q_ "u:3"]) AV.str (fun _=>none) (by kernel_rfl) (by kernel_rfl) rfl (fun u _ _=>oneIf (by kernel_rfl) (tr_t2 G n)) fun _ _ _ e=>nomatch e
theorem right0_cr {t m1 m2:List Row} {al D R:SS} {k:Nat} {w:Row} (hS:CR g (n+8) 261 [L1,.str "z:e",.str "u:z"] (.tree [(Row.mk "root" "" "" "" "" none [] [] [])]::Z48 []) (.nat 1) (.tree m1::.inst 365 Z01::Z40 [])) (hT:CR g (n+8) 205 [L7,.nat k] (Z02 t al m1) L17 (Z00 t al m1 k D)) (hL:CR g (n+8) 212 [L7,.nat k] (Z00 t al m1 k D) .none (Z00 t al m2 k D)) (hw:m2[1]?=some w) (H:NsOk m2 w.ns R) (hR:[(Q_ "z",Q_ "u:z")]++D=R) (hl:D.length<100):CR g (n+9) 735 [L0,.nat k,L2,L1] (Z28 t al D) (.bool true) ((Z28 t al D)):=
 .gz G [.call [3] (.none) Z33,.k 1,.gc [0,1,2,3] ["tree","element","due","aliases","made"],.call [3] (.nat 0) Z22,.call [3,4] (.none) (.tree [Row.mk "root" "" "" "" "" none [] [] []]::Z48 []),.k 0,.call [3,4,5,6,7] (.nat 1) (.tree m1::.inst 365 Z01::Z40 []),.call [0,1,3,4,5,6,7] L7 (Z02 t al m1),.call [0,1,3,4,5,6,7,8,9,10,11,12,13,14,15,16,17] L17 (Z00 t al m1 k D),.b true,.c,.call Z2n L17 (Z00 t al m1 k D),.b true,.c,.gc [0,1,2,3,4,5,6,7,8,9,10,11,12,13,14,15,16,17,18] ["tree","element","due","aliases","made","state","own"],.call Z2n (.none) (Z00 t al m2 k D),.call [3] L1 [.tree m2,.ixs w.ns],.comp w.ns.length (prsAV R) (.prs R) (Z0s t al D m2 k w),.gc [0,1,2,3,4,5,6,7,8,9,10,11,12,13,14,15,16,17,18,20] ["aliases","state","due","rows"],.comp 3 [] (.txs []) (Z0e t al D m2 k R),.k 1,.b true,.c,.s,.k 3,.o,.b true,.gc [0,1,2] []] (.c (tinit_cr G (n+5):CR g (n+7) 405 [L0] [.inst 576 []] (.none) Z33) (.c (⟨rfl,rfl⟩:some (AObj.inst 576 [(Q_ "rows",L4)])=some (AObj.inst 576 [(Q_ "rows",L4)])∧some (AObj.list [])=some (AObj.list [])) (.c (root_cr G (n+3) (t:=[]) rfl:CR g (n+7+1) 426 [L0] [.tree []] (.nat 0) Z22) (.c (rinit_cr G (n+5):CR g (n+7) 226 [L1,L0,.nat 0] [.tree [Row.mk "root" "" "" "" "" none [] [] []],.inst 365 []] (.none) (.tree [Row.mk "root" "" "" "" "" none [] [] []]::Z48 [])) (.c (hS:CR g (n+7+1) 261 [L1,.str "z:e",.str "u:z"] (.tree [Row.mk "root" "" "" "" "" none [] [] []]::Z48 []) (.nat 1) (.tree m1::.inst 365 Z01::Z40 [])) (.c (state1_cr G (n+4):CR g (n+7+1) 730 [L0,L1,L3] (.tree t::.dss al::.tree m1::.inst 365 Z09::Z40 []) L7 (Z02 t al m1)) (.c (hT:CR g (n+7+1) 205 [L7,.nat k] (Z02 t al m1) L17 (Z00 t al m1 k D)) (.c (.same (.inr ⟨D,rfl,rfl⟩) rfl:EqL (prsAV D) (prsAV D) true) (.c (told2_cr G (n+6):CR g (n+7+1) 205 [L7,.nat k] (Z00 t al m1 k D) L17 (Z00 t al m1 k D)) (.c (.same (.inr ⟨D,rfl,rfl⟩) rfl:EqL (prsAV D) (prsAV D) true) (.c (hL:CR g (n+7+1) 212 [L7,.nat k] (Z00 t al m1 k D) (.none) (Z00 t al m2 k D)) (.c (nss_cr G (n+5) hw:CR g (n+7+1) 552 [L0,.nat 1] [.tree m2] L1 [.tree m2,.ixs w.ns]) (.c (tr_c1 G (n+5) H:CoL g (n+7+1) (cSc (exF 735 [] 6 [])) (cGen (exF 735 [] 6 [])).target (cElt (exF 735 [] 6 [])) (cGen (exF 735 [] 6 [])).ifs (Src.lst L19) (Z0s t al D m2 k w) w.ns.length 0 [("made",L3)] (Z0s t al D m2 k w) (prsAV R)) (.c ((by rw [H.1,← hR];exact Nat.le_trans (Nat.succ_le_succ (Nat.le_of_lt hl)) (Nat.le_of_ble_eq_true rfl)):w.ns.length≤1000000) (.c (rfl:some (prsAV R)=some (prsAV R)) (.c (tr_c2 G (n+5):CoL g (n+7+1) (cSc (exF 735 [] 7 [0])) (cGen (exF 735 [] 7 [0])).target (cElt (exF 735 [] 7 [0])) (cGen (exF 735 [] 7 [0])).ifs (Src.lst (.lst [.str "u:1",.str "u:2",.str "u:3"])) (Z0e t al D m2 k R) 3 0 [("aliases",L1),("state",L8)] (Z0e t al D m2 k R) []) (.c (Nat.le_of_ble_eq_true rfl:3≤1000000) (.c (rfl:(some []:Option (List AV))=some []) (.c (.same (.inl ⟨[],rfl,rfl⟩) rfl:EqL [] [] true) (.c (Nat.ble_eq_true_of_le (Nat.le_trans (Nat.add_le_add_left (Nat.le_of_lt hl) 1) (Nat.le_of_ble_eq_true rfl)):(1+lenO (AObj.prs D)).ble 1000000=true) (.c (.same (.inr ⟨R,rfl,rfl⟩) (by rw [← hR];rfl):EqL (prsAV R) (prsAV ((Q_ "z",Q_ "u:z")::D)) true) .n)))))))))))))))))))))
theorem right_cr (X:Orc g n) {t:List Row} {al D:SS} {es:List El} {k:Nat} (tv:TV t es) (fw:Few es) (hk:k≤es.length) (wd:∀ i e,es[i]?=some e→i<k→WdOk es i e) (hg:(goneN es (k+1)).length≤1000) (hs:(scopeN es (k+1)).length<60) (hD:toldP (scopeN es (k+1)) (goneN es (k+1)) al=D) (H:DueOk [("z","u:z")] D):
  CR g (n+10) 735 [L0,.nat k,L2,L1] (Z28 t al D) (.bool true) (Z28 t al D):=by
 subst hD
 exact right0_cr G (n+1) (w:=elR _) (start_cr G (n+2) (X.up 2)) (told1_cr G (n+1) tv fw hk wd hg hs) (tell_cr G (n+1) (X.up 1) H) rfl madeR_ns rfl (Nat.lt_of_le_of_lt (Nat.le_add_left _ _) H.len)
end
section
noncomputable abbrev PW:=List (SS×List Str)
noncomputable def lawStep (f:SS) (p:Str×Str):SS:=bif strB p.2 (Str.ofString "") then delL p.1 f else setL p.1 p.2 (delL p.1 f)
noncomputable def pwPs (pw:PW) (i:Nat):SS:=(pw[i]?.map (·.1)).getD []
noncomputable def pwWs (pw:PW) (i:Nat):List Str:=(pw[i]?.map (·.2)).getD []
noncomputable def lawScN (pw:PW):Nat→SS
|0=>[]
|i+1=>(pwPs pw i).foldl lawStep (lawScN pw i)
noncomputable def lawGoneN (pw:PW):Nat→List Str
|0=>[XSLTU]
|i+1=>lawGoneN pw i++(pwWs pw i).map fun w=>getS w (lawScN pw (i+1))
noncomputable def lawDue (sc:SS) (gone:List Str) (als:SS):SS:=
 (((sortS (sc.map (·.1))).filter fun p=>!(inB (getS p sc) gone)).map fun p=>(p,getS p sc)).map fun p=>(p.1,(look p.2 als).getD p.2)
structure FewPW (pw:PW):Prop where
 len:pw.length≤10
 ps:∀ x∈pw,x.1.length≤20
 ws:∀ x∈pw,x.2.length≤20
theorem lawStep_len (f:SS) (p:Str×Str):(lawStep f p).length≤f.length+1:=by
 unfold lawStep
 have:=delL_len p.1 f
 cases strB p.2 (Str.ofString "") with
|false=>have:=setL_len p.1 p.2 (delL p.1 f);show (setL p.1 p.2 (delL p.1 f)).length≤_;omega
|true=>show (delL p.1 f).length≤_;omega
theorem lawFold_len (ps:SS):∀ f,(ps.foldl lawStep f).length≤f.length+ps.length:=by
 induction ps with
|nil=>intro f;exact Nat.le_refl _
|cons p r ih=>intro f;have:=ih (lawStep f p);have:=lawStep_len f p;simp only [List.foldl_cons,List.length_cons];omega
theorem pwPs_len {pw:PW} (h:FewPW pw) (i:Nat):(pwPs pw i).length≤20:=by
 unfold pwPs
 cases hx:pw[i]? with
|some x=>exact h.ps x (List.mem_of_getElem? hx)
|none=>exact Nat.zero_le _
theorem pwWs_len {pw:PW} (h:FewPW pw) (i:Nat):(pwWs pw i).length≤20:=by
 unfold pwWs
 cases hx:pw[i]? with
|some x=>exact h.ws x (List.mem_of_getElem? hx)
|none=>exact Nat.zero_le _
theorem lawScN_len {pw:PW} (h:FewPW pw):∀ i,(lawScN pw i).length≤20*i
|0=>by simp [lawScN]
|i+1=>by
  have h1:=lawScN_len h i
  have h2:=lawFold_len (pwPs pw i) (lawScN pw i)
  have h3:=pwPs_len h i
  show ((pwPs pw i).foldl lawStep (lawScN pw i)).length≤_
  omega
theorem lawGoneN_len {pw:PW} (h:FewPW pw):∀ i,(lawGoneN pw i).length≤1+20*i
|0=>by simp [lawGoneN]
|i+1=>by
  have h1:=lawGoneN_len h i
  have h3:=pwWs_len h i
  show (lawGoneN pw i++(pwWs pw i).map _).length≤_
  rw [List.length_append,List.length_map]
  omega
def Keep (rows rows':List Row):Prop:=∀ (j:Nat) (w:Row),rows[j]?=some w→w.kind≠Str.ofString "element"→rows'[j]?=some w
theorem NsOk.keep {rows rows':List Row} {ns:List Nat} {ps:SS} (h:NsOk rows ns ps) (k:Keep rows rows'):NsOk rows' ns ps:=
 ⟨h.1,fun i n hn=>by
  obtain ⟨w,p,h1,h2,h3,h4,h5⟩:=h.2 i n hn
  exact ⟨w,p,k _ _ h1 (by rw [h5];decide +kernel),h2,h3,h4,h5⟩⟩
theorem AtOk.keep {rows rows':List Row} {own:Nat} {at_:List Nat} {ats:List (Str×Str×Str)} (h:AtOk rows own at_ ats) (k:Keep rows rows'):AtOk rows' own at_ ats:=
 ⟨h.1,h.2.1,fun i n hn=>by
  obtain ⟨w,p,h1,h2,h3,h4,h5,h6,h7⟩:=h.2.2 i n hn
  exact ⟨w,p,k _ _ h1 (by rw [h6];decide +kernel),h2,h3,h4,h5,h6,h7⟩⟩
theorem keep_set {rows:List Row} {k:Nat} {w w' n:Row} (hk:rows[k]?=some w) (hw:w.kind=Str.ofString "element"):Keep rows ((rows++[n]).set k w'):=by
 intro j v hj hv
 have hne:k≠j:=fun e=>by rw [e,hj] at hk;cases hk;exact hv hw
 rw [List.getElem?_set_ne hne,List.getElem?_append_left (List.getElem?_eq_some_iff.mp hj).1];exact hj
theorem set_other {rows:List Row} {k j:Nat} {v w' n:Row} (hj:rows[j]?=some v) (hne:k≠j):((rows++[n]).set k w')[j]?=some v:=by
 rw [List.getElem?_set_ne hne,List.getElem?_append_left (List.getElem?_eq_some_iff.mp hj).1];exact hj
theorem setSelf {rows:List Row} {k:Nat} {w w' n:Row} (hk:rows[k]?=some w):((rows++[n]).set k w')[k]?=some w':=by
 have:=(List.getElem?_eq_some_iff.mp hk).1
 exact List.getElem?_set_self (by rw [List.length_append];omega)
theorem set_new {rows:List Row} {k:Nat} {w w' n:Row} (hk:rows[k]?=some w):((rows++[n]).set k w')[rows.length]?=some n:=by
 have:=(List.getElem?_eq_some_iff.mp hk).1
 rw [List.getElem?_set_ne (by omega),List.getElem?_append_right (Nat.le_refl _),Nat.sub_self];rfl
theorem TV.addNs {rows:List Row} {es:List El} {i:Nat} {e:El} {w:Row} {p u:Str} (tv:TV rows es) (he:es[i]?=some e) (hw:rows[i+1]?=some w):TV ((rows++[(Row.mk (Str.ofString "namespace") p (Str.ofString "") p u (some (i+1)) [] [] [])]).set (i+1) (rowP rows.length .nss w)) (es.set i { e with ps:=e.ps++[(p,u)] }):=by
 obtain ⟨w0,hw0,k0,k1,k2,k3,k4⟩:=tv.el i e he
 rw [hw] at hw0
 cases hw0
 have K:=keep_set (w':={ w with ns:=w.ns++[rows.length] }) (n:=(Row.mk (Str.ofString "namespace") p (Str.ofString "") p u (some (i+1)) [] [] [])) hw k0
 refine ⟨?_,fun j x hx=>?_⟩
 ·obtain ⟨r,r1,r2,r3,r4⟩:=tv.root
  exact ⟨r,K _ _ r1 (by rw [r2];decide +kernel),r2,r3,r4⟩
 ·by_cases hij:i=j
  ·subst hij
   have hx':x={ e with ps:=e.ps++[(p,u)] }:=by
    rw [List.getElem?_set_self (List.getElem?_eq_some_iff.mp he).1] at hx
    cases hx;rfl
   subst hx'
   refine ⟨_,setSelf hw,k0,k1,k2,⟨by show (w.ns++[_]).length=(e.ps++[_]).length;rw [List.length_append,List.length_append,k3.1];rfl,fun j n hn=>?_⟩,k4.keep K⟩
   have hn:(w.ns++[rows.length])[j]?=some n:=hn
   by_cases hjl:j<w.ns.length
   ·rw [List.getElem?_append_left hjl] at hn
    obtain ⟨v,q,h1,h2,h3,h4,h5⟩:=(k3.keep K).2 j n hn
    exact ⟨v,q,h1,by rw [List.getElem?_append_left (by rw [← k3.1];exact hjl)];exact h2,h3,h4,h5⟩
   ·rw [List.getElem?_append_right (by omega)] at hn
    have hj0:j - w.ns.length=0:=by
     have:=(List.getElem?_eq_some_iff.mp hn).1
     rw [List.length_singleton] at this;omega
    rw [hj0] at hn
    cases hn
    refine ⟨_,(p,u),set_new hw,?_,rfl,rfl,rfl⟩
    rw [List.getElem?_append_right (by rw [← k3.1];omega),← k3.1,hj0];rfl
  ·rw [List.getElem?_set_ne hij] at hx
   obtain ⟨v,v0,v1,v2,v3,v4,v5⟩:=tv.el j x hx
   exact ⟨v,set_other v0 (by omega),v1,v2,v3,v4.keep K,v5.keep K⟩
theorem TV.addAt {rows:List Row} {es:List El} {i:Nat} {e:El} {w:Row} {name uri loc value:Str} (tv:TV rows es) (he:es[i]?=some e) (hw:rows[i+1]?=some w):TV ((rows++[(Row.mk (Str.ofString "attribute") name uri loc value (some (i+1)) [] [] [])]).set (i+1) (rowP rows.length .att w)) (es.set i { e with ats:=e.ats++[(loc,uri,value)] }):=by
 obtain ⟨w0,hw0,k0,k1,k2,k3,k4⟩:=tv.el i e he
 rw [hw] at hw0
 cases hw0
 have K:=keep_set (w':={ w with at_:=w.at_++[rows.length] }) (n:=(Row.mk (Str.ofString "attribute") name uri loc value (some (i+1)) [] [] [])) hw k0
 refine ⟨?_,fun j x hx=>?_⟩
 ·obtain ⟨r,r1,r2,r3,r4⟩:=tv.root
  exact ⟨r,K _ _ r1 (by rw [r2];decide +kernel),r2,r3,r4⟩
 ·by_cases hij:i=j
  ·subst hij
   have hx':x={ e with ats:=e.ats++[(loc,uri,value)] }:=by
    rw [List.getElem?_set_self (List.getElem?_eq_some_iff.mp he).1] at hx
    cases hx;rfl
   subst hx'
   refine ⟨_,setSelf hw,k0,k1,k2,k3.keep K,⟨by show (w.at_++[_]).length=(e.ats++[_]).length;rw [List.length_append,List.length_append,k4.1];rfl,?_,fun j n hn=>?_⟩⟩
   ·refine List.nodup_append.mpr ⟨k4.2.1,by simp,fun x hx y hy=>?_⟩
    rw [List.mem_singleton] at hy
    subst hy
    obtain ⟨z,hz⟩:=List.mem_iff_getElem?.mp hx
    obtain ⟨v,q,h1,_⟩:=k4.2.2 z x hz
    have:=(List.getElem?_eq_some_iff.mp h1).1
    omega
   have hn:(w.at_++[rows.length])[j]?=some n:=hn
   by_cases hjl:j<w.at_.length
   ·rw [List.getElem?_append_left hjl] at hn
    obtain ⟨v,q,h1,h2,h3,h4,h5,h6,h7⟩:=(k4.keep K).2.2 j n hn
    exact ⟨v,q,h1,by rw [List.getElem?_append_left (by rw [← k4.1];exact hjl)];exact h2,h3,h4,h5,h6,h7⟩
   ·rw [List.getElem?_append_right (by omega)] at hn
    have hj0:j - w.at_.length=0:=by
     have:=(List.getElem?_eq_some_iff.mp hn).1
     rw [List.length_singleton] at this;omega
    rw [hj0] at hn
    cases hn
    refine ⟨_,(loc,uri,value),set_new hw,?_,rfl,rfl,rfl,rfl,rfl⟩
    rw [List.getElem?_append_right (by rw [← k4.1];omega),← k4.1,hj0];rfl
  ·rw [List.getElem?_set_ne hij] at hx
   obtain ⟨v,v0,v1,v2,v3,v4,v5⟩:=tv.el j x hx
   exact ⟨v,set_other v0 (by omega),v1,v2,v3,v4.keep K,v5.keep K⟩
noncomputable def bareR (u1 u2:Str):List Row:=
 [Row.mk (Str.ofString "root") (Str.ofString "") (Str.ofString "") (Str.ofString "") (Str.ofString "") none [1] [] [],
  Row.mk (Str.ofString "element") (Str.ofString "xsl:stylesheet") XSLTU (Str.ofString "stylesheet") (Str.ofString "") (some 0) [2] [] [],
  Row.mk (Str.ofString "element") (Str.ofString "e"++Str.ofString "0") u1 (Str.ofString "e"++Str.ofString "0") (Str.ofString "") (some 1) [3] [] [],
  Row.mk (Str.ofString "element") (Str.ofString "e"++Str.ofString "1") u2 (Str.ofString "e"++Str.ofString "1") (Str.ofString "") (some 2) [] [] []]
noncomputable def bareE (u1 u2:Str):List El:=[⟨XSLTU,[],[]⟩,⟨u1,[],[]⟩,⟨u2,[],[]⟩]
theorem bare_tv (u1 u2:Str):TV (bareR u1 u2) (bareE u1 u2):=by
 have n0:NsOk (bareR u1 u2) [] []:=⟨rfl,fun i k h=>by simp at h⟩
 have a0:∀ o,AtOk (bareR u1 u2) o [] []:=fun o=>⟨rfl,List.nodup_nil,fun i k h=>by simp at h⟩
 refine ⟨⟨_,rfl,rfl,rfl,rfl⟩,fun i e he=>?_⟩
 rcases i with _|_|_|i
 ·cases he;exact ⟨_,rfl,rfl,rfl,rfl,n0,a0 _⟩
 ·cases he;exact ⟨_,rfl,rfl,rfl,rfl,n0,a0 _⟩
 ·cases he;exact ⟨_,rfl,rfl,rfl,rfl,n0,a0 _⟩
 ·simp [bareE] at he
end
section
theorem look_mem {x:Str} {l:SS} (h:x∈l.map (·.1)):∃ v,look x l=some v:=⟨_,look_key h⟩
noncomputable def wLets:List Str:=[Str.ofString "",Str.ofString "p",Str.ofString "q"]
noncomputable def allWs:List (List Str):=(wLets.map fun w=>[w])++wLets.flatMap fun w=>wLets.map fun v=>[w,v]
noncomputable def txt (w:Str):Str:=bif strB w (Str.ofString "") then Str.ofString "#default" else w
noncomputable def joinT (ws:List Str):Str:=Str.join (Str.ofString "  ") (ws.map txt)
noncomputable def sameL:List Str→List Str→Bool
|[],[]=>true
|x::xs,y::ys=>strB x y&&sameL xs ys
|_,_=>false
theorem sameL_eq:∀ {xs ys:List Str},sameL xs ys=true→xs=ys
|[],[],_=>rfl
|[],_::_,h=>by cases h
|_::_,[],h=>by cases h
|x::xs,y::ys,h=>by
  unfold sameL at h
  rw [Bool.and_eq_true] at h
  rw [strB_iff.mp h.1,sameL_eq h.2]
noncomputable def excA (U:Str) (ats:List (Str×Str×Str)):Str:=(attrOf EXCS U ats).getD (Str.ofString "")
noncomputable def extA (U:Str) (ats:List (Str×Str×Str)):Str:=(attrOf EXTS U ats).getD (Str.ofString "")
noncomputable def wordsB (U:Str) (ats:List (Str×Str×Str)) (ws:List Str):Bool:=
 sameL ((spl (excA U ats++Str.ofString " "++extA U ats)).map dflt) ws&&Nat.ble (excA U ats).cps.toList.length 200&&Nat.ble (extA U ats).cps.toList.length 200
noncomputable def Us:List Str:=[Str.ofString "",Str.ofString "http://www.w3.org/1999/XSL/Transform"]
theorem words_one:(Us.all fun U=>[EXCS,EXTS].all fun l=>[Str.ofString "",Str.ofString " "].all fun pre=>allWs.all fun ws=>wordsB U [(l,U,pre++joinT ws)] ws)=true:=by decide +kernel
theorem words_two:(Us.all fun U=>allWs.all fun ws=>match ws with
|[w,v]=>wordsB U [(EXCS,U,txt w),(EXTS,U,txt v)] ws
|_=>true)=true:=by decide +kernel
theorem words_none:(Us.all fun U=>wordsB U [] [])=true:=by decide +kernel
theorem join_all:(allWs.all fun ws=>okS (joinT ws)&&Nat.ble (joinT ws).length 100)=true:=by decide +kernel
theorem mem_allWs1 {w:Str} (h:w∈wLets):[w]∈allWs:=List.mem_append_left _ (List.mem_map.mpr ⟨w,h,rfl⟩)
theorem mem_allWs2 {w v:Str} (h:w∈wLets) (h':v∈wLets):[w,v]∈allWs:=List.mem_append_right _ (List.mem_flatMap.mpr ⟨w,h,List.mem_map.mpr ⟨v,h',rfl⟩⟩)
theorem join_ok {ws:List Str} (h:ws∈allWs):okS (joinT ws)=true∧(joinT ws).length≤100:=
 have z:=(Bool.and_eq_true _ _).mp (List.all_eq_true.mp join_all ws h)
 ⟨z.1,Nat.le_of_ble_eq_true z.2⟩
structure WordsOk (U:Str) (ats:List (Str×Str×Str)) (ws:List Str):Prop where
 words:(spl (excA U ats++Str.ofString " "++extA U ats)).map dflt=ws
 s1:(excA U ats).cps.toList.length≤200
 s2:(extA U ats).cps.toList.length≤200
theorem WordsOk.of {U:Str} {ats:List (Str×Str×Str)} {ws:List Str} (h:wordsB U ats ws=true):WordsOk U ats ws:=by
 unfold wordsB at h
 rw [Bool.and_eq_true,Bool.and_eq_true] at h
 exact ⟨sameL_eq h.1.1,Nat.le_of_ble_eq_true h.1.2,Nat.le_of_ble_eq_true h.2⟩
noncomputable def uris3:List Str:=[Str.ofString "u:1",Str.ofString "u:2",Str.ofString "u:3"]
noncomputable def pfx:List Str:=[Str.ofString "",Str.ofString "p",Str.ofString "q"]
structure PsP (j:Nat) (ps:SS):Prop where
 nd:(ps.map (·.1)).Nodup
 mem:∀ x∈ps,(x.1=Str.ofString "xsl"∧x.2=XSLTU)∨(x.1∈pfx.take j∧x.2∈Str.ofString ""::uris3)
 len:ps.length≤j+1
theorem PsP.up {j:Nat} {ps:SS} (h:PsP j ps):PsP (j+1) ps:=
 ⟨h.nd,fun x hx=>by
  rcases h.mem x hx with z|⟨z1,z2⟩
  ·exact .inl z
  ·exact .inr ⟨by rw [List.take_add_one];exact List.mem_append_left _ z1,z2⟩,by have:=h.len;omega⟩
theorem PsP.snoc {j:Nat} {ps:SS} {p u:Str} (h:PsP j ps) (hp:pfx[j]?=some p) (hu:u∈Str.ofString ""::uris3):PsP (j+1) (ps++[(p,u)]):=by
 have hne:p ∉ ps.map (·.1):=by
  intro hm
  obtain ⟨x,hx,e⟩:=List.mem_map.mp hm
  have hj:j<3:=(List.getElem?_eq_some_iff.mp hp).1
  rcases h.mem x hx with ⟨z,_⟩|⟨z,_⟩
  ·rw [← e,z] at hp
   rcases j with _|_|_|j
   ·revert hp;decide +kernel
   ·revert hp;decide +kernel
   ·revert hp;decide +kernel
   ·exact absurd hj (Nat.not_lt.mpr (Nat.le_add_left 3 j))
  ·rw [e] at z
   rcases j with _|_|_|j
   ·exact nomatch z
   ·obtain rfl:=Option.some.inj hp;revert z;decide +kernel
   ·obtain rfl:=Option.some.inj hp;revert z;decide +kernel
   ·exact absurd hj (Nat.not_lt.mpr (Nat.le_add_left 3 j))
 refine ⟨?_,fun x hx=>?_,by have:=h.len;simp;omega⟩
 ·rw [List.map_append]
  refine List.nodup_append.mpr ⟨h.nd,by simp,fun a ha b hb=>?_⟩
  have:b=p:=by simpa using hb
  subst this
  exact fun e=>hne (e▸ha)
 ·rcases List.mem_append.mp hx with z|z
  ·exact h.up.mem x z
  ·rw [List.mem_singleton] at z
   subst z
   exact .inr ⟨by rw [List.take_add_one,hp];exact List.mem_append_right _ (.head _),hu⟩
theorem keys_set {x v:Str}:∀ {l:SS},(setL x v l).map (·.1)=if x∈l.map (·.1) then l.map (·.1) else l.map (·.1)++[x]
|[]=>rfl
|(y,u)::r=>by
  unfold setL
  by_cases h:x=y
  ·subst h
   rw [strB_self,if_pos (by simp)];rfl
  ·rw [strB_ne h]
   show y::(setL x v r).map (·.1)=_
   rw [keys_set]
   by_cases hr:x∈r.map (·.1)
   ·rw [if_pos hr,if_pos (by rw [List.map_cons];exact .tail _ hr)];rfl
   ·rw [if_neg hr,if_neg (by rw [List.map_cons,List.mem_cons];rintro (z|z);exact h z;exact hr z)];rfl
theorem keys_del {x:Str}:∀ {l:SS},(l.map (·.1)).Nodup→(delL x l).map (·.1)=(l.map (·.1)).filter fun y=>!decide (y=x)
|[],_=>rfl
|(y,u)::r,h=>by
  rw [List.map_cons,List.nodup_cons] at h
  unfold delL
  by_cases e:x=y
  ·subst e
   rw [strB_self]
   show r.map (·.1)=(x::r.map (·.1)).filter fun y=>!decide (y=x)
   rw [List.filter_cons,decide_eq_true rfl]
   show r.map (·.1)=(r.map (·.1)).filter fun y=>!decide (y=x)
   refine (List.filter_eq_self.mpr fun z hz=>?_).symm
   have:z≠x:=fun e=>h.1 (by rw [← e];exact hz)
   rw [decide_eq_false this];rfl
  ·rw [strB_ne e]
   show y::(delL x r).map (·.1)=(y::r.map (·.1)).filter fun y=>!decide (y=x)
   rw [List.filter_cons,decide_eq_false (fun z=>e z.symm),keys_del h.2];rfl
theorem look_not {α:Type} {x:Str}:∀ {l:List (Str×α)},x ∉ l.map (·.1)→look x l=none
|[],_=>rfl
|(y,v)::r,h=>by
  rw [List.map_cons,List.mem_cons,not_or] at h
  unfold look
  rw [strB_ne h.1]
  exact look_not h.2
theorem look_del {x y:Str}:∀ {l:SS},(l.map (·.1)).Nodup→look y (delL x l)=if y=x then none else look y l
|[],_=>by unfold delL look;split<;>rfl
|(z,u)::r,h=>by
  rw [List.map_cons,List.nodup_cons] at h
  unfold delL
  by_cases e:x=z
  ·subst e
   rw [strB_self]
   by_cases e2:y=x
   ·subst e2;rw [if_pos rfl];exact look_not h.1
   ·rw [if_neg e2]
    show look y r=look y ((x,u)::r)
    conv=>rhs;unfold look
    rw [strB_ne e2];rfl
  ·rw [strB_ne e]
   show look y ((z,u)::delL x r)=_
   by_cases e3:y=z
   ·subst e3
    rw [if_neg (fun q=>e q.symm)]
    unfold look;rw [strB_self];rfl
   ·unfold look
    rw [strB_ne e3,cond_false,cond_false]
    exact look_del h.2
theorem nd_set {x v:Str} {l:SS} (h:(l.map (·.1)).Nodup):((setL x v l).map (·.1)).Nodup:=by
 rw [keys_set]
 split
 ·exact h
 ·rename_i hx
  exact List.nodup_append.mpr ⟨h,by simp,fun a ha b hb=>by rw [List.mem_singleton] at hb;subst hb;exact fun e=>hx (e▸ha)⟩
theorem nd_del {x:Str} {l:SS} (h:(l.map (·.1)).Nodup):((delL x l).map (·.1)).Nodup:=by
 rw [keys_del h];exact h.filter _
theorem nodup_len:∀ (l U:List Str),l.Nodup→(∀ x∈l,x∈U)→l.length≤U.length
|[],U,_,_=>Nat.zero_le _
|x::l,U,h,hm=>by
  rw [List.nodup_cons] at h
  have hx:=hm x (.head _)
  have:=nodup_len l (U.erase x) h.2 fun y hy=>(List.mem_erase_of_ne (fun e=>h.1 (by rw [← e];exact hy))).mpr (hm y (.tail _ hy))
  rw [List.length_erase_of_mem hx] at this
  have h1:=List.length_pos_of_mem hx
  simp only [List.length_cons];omega
noncomputable def U4:List Str:=[Str.ofString "",Str.ofString "p",Str.ofString "q",Str.ofString "xsl"]
noncomputable def xmlS:Str:=Str.ofString "xml"
structure RelS (f g:SS):Prop where
 nf:(f.map (·.1)).Nodup
 ng:(g.map (·.1)).Nodup
 kf:∀ x∈f.map (·.1),x=xmlS∨x∈U4
 kg:∀ x∈g.map (·.1),x∈U4
 lk:∀ x,x≠xmlS→look x f=look x g
 xml:(look xmlS f).isSome=true
 uri:∀ x u,look x g=some u→u≠Str.ofString ""
theorem look_set2 (x y v:Str) (l:SS):look y (setL x v l)=if y=x then some v else look y l:=look_setL x y v l
theorem RelS.step {f g:SS} {p:Str×Str} (r:RelS f g) (hp:p.1∈U4):RelS (scStep f p) (lawStep g p):=by
 obtain ⟨x,u⟩:=p
 dsimp only at hp
 have hxml:xmlS≠x:=fun e=>by rw [← e] at hp;revert hp;decide +kernel
 have hdf:=nd_del (x:=x) r.nf
 have hdg:=nd_del (x:=x) r.ng
 unfold scStep lawStep
 dsimp only
 cases hu:strB u (Str.ofString "") with
|false=>
  have hu':u≠Str.ofString "":=fun e=>by rw [e,strB_self] at hu;cases hu
  show RelS (setL x u f) (setL x u (delL x g))
  refine ⟨nd_set r.nf,nd_set hdg,fun y hy=>?_,fun y hy=>?_,fun y hy=>?_,?_,fun y w hw=>?_⟩
  ·rw [keys_set] at hy
   split at hy
   ·exact r.kf y hy
   ·rcases List.mem_append.mp hy with z|z
    ·exact r.kf y z
    ·rw [List.mem_singleton] at z;subst z;exact .inr hp
  ·rw [keys_set] at hy
   have hd:∀ z∈(delL x g).map (·.1),z∈U4:=fun z hz=>by rw [keys_del r.ng,List.mem_filter] at hz;exact r.kg z hz.1
   split at hy
   ·exact hd y hy
   ·rcases List.mem_append.mp hy with z|z
    ·exact hd y z
    ·rw [List.mem_singleton] at z;subst z;exact hp
  ·rw [look_set2,look_set2,look_del r.ng]
   split
   ·rfl
   ·exact r.lk y hy
  ·rw [look_set2,if_neg hxml];exact r.xml
  ·rw [look_set2,look_del r.ng] at hw
   split at hw
   ·cases hw;exact hu'
   ·exact r.uri y w hw
|true=>
  have hgl:∀ y,look y (delL x g)=if y=x then none else look y g:=fun y=>look_del r.ng
  have hk:∀ z∈(delL x g).map (·.1),z∈U4:=fun z hz=>by rw [keys_del r.ng,List.mem_filter] at hz;exact r.kg z hz.1
  have hur:∀ y w,look y (delL x g)=some w→w≠Str.ofString "":=fun y w hw=>by
   rw [hgl] at hw
   split at hw
   ·cases hw
   ·exact r.uri y w hw
  cases hs:(look x f).isSome with
 |true=>
   refine ⟨hdf,hdg,fun y hy=>?_,hk,fun y hy=>?_,?_,hur⟩
   ·have hy':y∈(delL x f).map (·.1):=hy
    rw [keys_del r.nf,List.mem_filter] at hy';exact r.kf y hy'.1
   ·show look y (delL x f)=look y (delL x g)
    rw [hgl,look_del r.nf]
    split
    ·rfl
    ·exact r.lk y hy
   ·show (look xmlS (delL x f)).isSome=true
    rw [look_del r.nf,if_neg hxml];exact r.xml
 |false=>
   refine ⟨r.nf,hdg,r.kf,hk,fun y hy=>?_,r.xml,hur⟩
   show look y f=look y (delL x g)
   rw [hgl]
   split
   ·rename_i e
    subst e
    cases q:look y f with
   |none=>rfl
   |some v=>rw [q] at hs;cases hs
   ·exact r.lk y hy
theorem RelS.fold {ps:SS}:∀ {f g:SS},RelS f g→(∀ p∈ps,p.1∈U4)→RelS (ps.foldl scStep f) (ps.foldl lawStep g):=by
 induction ps with
|nil=>intro f g r _;exact r
|cons p ps ih=>intro f g r h;exact ih (r.step (h p (.head _))) fun q hq=>h q (.tail _ hq)
theorem rel0:RelS [(xmlS,XMLU)] []:=⟨by simp,by simp,fun x hx=>by simp at hx;exact .inl hx,fun x hx=>by simp at hx,fun x hx=>by unfold look;rw [strB_ne hx];rfl,by unfold look;rw [strB_self];rfl,fun x u h=>by cases h⟩
theorem RelS.len {f g:SS} (r:RelS f g):g.length≤4∧f.length≤5:=by
 refine ⟨?_,?_⟩
 ·have:=nodup_len _ U4 r.ng r.kg
  rwa [List.length_map] at this
 ·have:=nodup_len _ (xmlS::U4) r.nf fun x hx=>by
   rcases r.kf x hx with z|z
   ·exact z▸.head _
   ·exact .tail _ z
  rwa [List.length_map] at this
noncomputable def canonS:List Str:=[Str.ofString "",Str.ofString "p",Str.ofString "q",Str.ofString "xml",Str.ofString "xsl"]
noncomputable def bitsL (b0 b1 b2 b3 b4:Bool):List Str:=(cond b0 [Str.ofString ""] [])++(cond b1 [Str.ofString "p"] [])++(cond b2 [Str.ofString "q"] [])++(cond b3 [Str.ofString "xml"] [])++(cond b4 [Str.ofString "xsl"] [])
theorem ins_bits:∀ b0 b1 b2 b3 b4:Bool,(b0=false→insS (Str.ofString "") (bitsL b0 b1 b2 b3 b4)=bitsL true b1 b2 b3 b4)∧(b1=false→insS (Str.ofString "p") (bitsL b0 b1 b2 b3 b4)=bitsL b0 true b2 b3 b4) ∧
  (b2=false→insS (Str.ofString "q") (bitsL b0 b1 b2 b3 b4)=bitsL b0 b1 true b3 b4)∧(b3=false→insS (Str.ofString "xml") (bitsL b0 b1 b2 b3 b4)=bitsL b0 b1 b2 true b4)∧(b4=false→insS (Str.ofString "xsl") (bitsL b0 b1 b2 b3 b4)=bitsL b0 b1 b2 b3 true):=by decide +kernel
noncomputable def hasB (x:String) (l:List Str):Bool:=decide (Str.ofString x∈l)
theorem sort_canon:∀ l:List Str,l.Nodup→(∀ x∈l,x∈canonS)→sortS l=bitsL (hasB "" l) (hasB "p" l) (hasB "q" l) (hasB "xml" l) (hasB "xsl" l)
|[],_,_=>by decide +kernel
|x::l,h,hm=>by
  rw [List.nodup_cons] at h
  have ih:=sort_canon l h.2 fun y hy=>hm y (.tail _ hy)
  show insS x (sortS l)=_
  rw [ih]
  have hne:∀ y,Str.ofString y≠x→hasB y (x::l)=hasB y l:=fun y hy=>by
   unfold hasB
   by_cases e:Str.ofString y∈l
   ·rw [decide_eq_true e,decide_eq_true (.tail _ e)]
   ·rw [decide_eq_false e,decide_eq_false (fun z=>by rcases List.mem_cons.mp z with z|z;exact hy z;exact e z)]
  have heq:∀ y,Str.ofString y=x→hasB y (x::l)=true∧hasB y l=false:=fun y hy=>⟨decide_eq_true (hy▸.head _),decide_eq_false (hy▸h.1)⟩
  obtain ⟨c0,c1,c2,c3,c4⟩:=ins_bits (hasB "" l) (hasB "p" l) (hasB "q" l) (hasB "xml" l) (hasB "xsl" l)
  have hx:=hm x (.head _)
  simp only [canonS,List.mem_cons,List.not_mem_nil,or_false] at hx
  rcases hx with e|e|e|e|e
  ·obtain ⟨q1,q2⟩:=heq _ e.symm
   rw [q1,hne "p" (by rw [e];decide +kernel),hne "q" (by rw [e];decide +kernel),hne "xml" (by rw [e];decide +kernel),hne "xsl" (by rw [e];decide +kernel),e]
   exact c0 q2
  ·obtain ⟨q1,q2⟩:=heq _ e.symm
   rw [q1,hne "" (by rw [e];decide +kernel),hne "q" (by rw [e];decide +kernel),hne "xml" (by rw [e];decide +kernel),hne "xsl" (by rw [e];decide +kernel),e]
   exact c1 q2
  ·obtain ⟨q1,q2⟩:=heq _ e.symm
   rw [q1,hne "" (by rw [e];decide +kernel),hne "p" (by rw [e];decide +kernel),hne "xml" (by rw [e];decide +kernel),hne "xsl" (by rw [e];decide +kernel),e]
   exact c2 q2
  ·obtain ⟨q1,q2⟩:=heq _ e.symm
   rw [q1,hne "" (by rw [e];decide +kernel),hne "p" (by rw [e];decide +kernel),hne "q" (by rw [e];decide +kernel),hne "xsl" (by rw [e];decide +kernel),e]
   exact c3 q2
  ·obtain ⟨q1,q2⟩:=heq _ e.symm
   rw [q1,hne "" (by rw [e];decide +kernel),hne "p" (by rw [e];decide +kernel),hne "q" (by rw [e];decide +kernel),hne "xml" (by rw [e];decide +kernel),e]
   exact c4 q2
theorem filt_bits:∀ b0 b1 b2 b3 b4:Bool,(bitsL b0 b1 b2 b3 b4).filter (fun p=>!strB p (Str.ofString "xml"))=bitsL b0 b1 b2 false b4:=by decide +kernel
theorem RelS.sorted {f g:SS} (r:RelS f g):(sortS (f.map (·.1))).filter (fun p=>!strB p (Str.ofString "xml"))=sortS (g.map (·.1)):=by
 have hU:∀ x∈U4,x∈canonS:=by decide +kernel
 rw [sort_canon _ r.nf fun x hx=>by
   rcases r.kf x hx with z|z
   ·rw [z];decide +kernel
   ·exact hU x z,
  sort_canon _ r.ng fun x hx=>hU x (r.kg x hx),filt_bits]
 have key:∀ y,Str.ofString y≠xmlS→hasB y (f.map (·.1))=hasB y (g.map (·.1)):=by
  intro y hy
  have:=r.lk _ hy
  unfold hasB
  by_cases e:Str.ofString y∈g.map (·.1)
  ·obtain ⟨v,hv⟩:=look_mem e
   rw [hv] at this
   rw [decide_eq_true e]
   by_cases e2:Str.ofString y∈f.map (·.1)
   ·exact decide_eq_true e2
   ·rw [look_not e2] at this;cases this
  ·rw [look_not e] at this
   rw [decide_eq_false e]
   by_cases e2:Str.ofString y∈f.map (·.1)
   ·obtain ⟨v,hv⟩:=look_mem e2
    rw [hv] at this;cases this
   ·exact decide_eq_false e2
 have hx:hasB "xml" (g.map (·.1))=false:=by
  unfold hasB
  refine decide_eq_false fun e=>?_
  have:=r.kg _ e
  revert this;decide +kernel
 rw [key "" (by decide +kernel),key "p" (by decide +kernel),key "q" (by decide +kernel),key "xsl" (by decide +kernel),hx]
end
section
structure Sheet (es:List El) (pw:PW):Prop where
 le:es.length=3
 lp:pw.length=3
 at_:∀ (i:Nat) (e:El),es[i]?=some e→∃ x:SS×List Str,pw[i]?=some x∧e.ps=x.1∧PsP 3 x.1∧WordsOk (elU e.uri) e.ats x.2∧x.2.length≤2∧∀ w∈x.2,w∈(lawScN pw (i+1)).map (·.1)∧w≠Str.ofString "xsl"
theorem PsP.keys {j:Nat} {ps:SS} (h:PsP j ps):∀ p∈ps,p.1∈U4:=by
 intro p hp
 rcases h.mem p hp with ⟨z,_⟩|⟨z,_⟩
 ·rw [z];decide +kernel
 ·have h1:p.1∈pfx:=List.mem_of_mem_take z
  have h2:∀ x∈pfx,x∈U4:=by decide +kernel
  exact h2 _ h1
section
variable {es:List El} {pw:PW} (H:Sheet es pw)
include H
theorem Sheet.el {i:Nat} (hi:i<3):∃ e,es[i]?=some e:=⟨_,List.getElem?_eq_getElem (by rw [H.le];exact hi)⟩
theorem Sheet.few:Few es:=⟨by rw [H.le];decide,fun e he=>by
 obtain ⟨i,hi⟩:=List.mem_iff_getElem?.mp he
 obtain ⟨x,_,h1,h2,_⟩:=H.at_ i e hi
 rw [h1];have:=h2.len;omega⟩
theorem Sheet.pwAt {x:SS×List Str} {i:Nat} (hx:pw[i]?=some x):PsP 3 x.1∧x.2.length≤2:=by
 have hi:i<3:=by have:=(List.getElem?_eq_some_iff.mp hx).1;rw [H.lp] at this;exact this
 obtain ⟨e,he⟩:=H.el hi
 obtain ⟨y,h0,_,h2,_,h4,_⟩:=H.at_ i e he
 rw [hx] at h0;cases h0
 exact ⟨h2,h4⟩
theorem Sheet.fewPW:FewPW pw:=⟨by rw [H.lp];decide,fun x hx=>by
 obtain ⟨i,hi⟩:=List.mem_iff_getElem?.mp hx
 have:=(H.pwAt hi).1.len;omega,fun x hx=>by
 obtain ⟨i,hi⟩:=List.mem_iff_getElem?.mp hx
 have:=(H.pwAt hi).2;omega⟩
theorem Sheet.nodePs {i:Nat} (hi:i<3):nodePs es (i+1)=pwPs pw i:=by
 obtain ⟨e,he⟩:=H.el hi
 obtain ⟨x,h0,h1,_⟩:=H.at_ i e he
 show (es[i]?.map (·.ps)).getD []=(pw[i]?.map (·.1)).getD []
 rw [he,h0];exact h1
theorem Sheet.rel:∀ k,k≤3→RelS (scopeN es (k+1)) (lawScN pw k)
|0,_=>rel0
|k+1,hk=>by
  have ih:=Sheet.rel k (by omega)
  show RelS ((Mine.nodePs es (k+1)).foldl scStep (scopeN es (k+1))) ((pwPs pw k).foldl lawStep (lawScN pw k))
  rw [H.nodePs (by omega)]
  refine ih.fold ?_
  obtain ⟨e,he⟩:=H.el (i:=k) (by omega)
  obtain ⟨x,h0,h1,h2,_⟩:=H.at_ k e he
  have:pwPs pw k=x.1:=by unfold pwPs;rw [h0];rfl
  rw [this];exact h2.keys
theorem Sheet.word {i:Nat} {x:SS×List Str} (hx:pw[i]?=some x) {w:Str} (hw:w∈x.2):w≠xmlS∧(look w (lawScN pw (i+1))).isSome=true∧look w (scopeN es (i+2))=look w (lawScN pw (i+1)):=by
 have hi:i<3:=by have:=(List.getElem?_eq_some_iff.mp hx).1;rw [H.lp] at this;exact this
 obtain ⟨e,he⟩:=H.el hi
 obtain ⟨y,h0,_,_,_,_,h5⟩:=H.at_ i e he
 rw [hx] at h0;cases h0
 obtain ⟨z1,_⟩:=h5 w hw
 have r:=H.rel (i+1) (by omega)
 have hne:w≠xmlS:=fun e=>by have:=r.kg w z1;rw [e] at this;revert this;decide +kernel
 obtain ⟨v,hv⟩:=look_mem z1
 exact ⟨hne,by rw [hv];rfl,r.lk w hne⟩
theorem Sheet.wd {i:Nat} {e:El} (he:es[i]?=some e):WdOk es i e:=by
 obtain ⟨x,h0,h1,h2,h3,h4,h5⟩:=H.at_ i e he
 refine ⟨⟨h3.s1,h3.s2⟩,fun w hw=>?_⟩
 have hw':dflt w∈x.2:=by
  rw [← h3.words]
  exact List.mem_map.mpr ⟨w,hw,rfl⟩
 obtain ⟨_,z2,z3⟩:=H.word h0 hw'
 rw [z3];exact z2
theorem Sheet.gone:∀ k,k≤3→goneN es (k+1)=lawGoneN pw k
|0,_=>rfl
|k+1,hk=>by
  have ih:=Sheet.gone k (by omega)
  show goneN es (k+1)++nodeGone es (k+1)=lawGoneN pw k++(pwWs pw k).map fun w=>getS w (lawScN pw (k+1))
  rw [ih]
  congr 1
  obtain ⟨e,he⟩:=H.el (i:=k) (by omega)
  obtain ⟨x,h0,h1,h2,h3,_⟩:=H.at_ k e he
  have hws:pwWs pw k=x.2:=by unfold pwWs;rw [h0];rfl
  rw [hws]
  show (es[k]?.map fun e=>(spl (namesS e)).map (goneF (scopeN es (k+2)))).getD []=_
  rw [he]
  show (spl (namesS e)).map (fun w=>(look (dflt w) (scopeN es (k+2))).getD (Str.ofString ""))=_
  have e1:(spl (namesS e)).map (fun w=>(look (dflt w) (scopeN es (k+2))).getD (Str.ofString ""))=((spl (namesS e)).map dflt).map fun w=>(look w (scopeN es (k+2))).getD (Str.ofString ""):=by rw [List.map_map];rfl
  have e2:(spl (namesS e)).map dflt=x.2:=h3.words
  rw [e1,e2]
  refine List.map_congr_left fun w hw=>?_
  rw [(H.word h0 hw).2.2];rfl
theorem Sheet.hb {k:Nat} (hk:k≤3):∀ i,i<k→∀ w∈pwWs pw i,(look w (lawScN pw (i+1))).isSome=true:=by
 intro i hi w hw
 obtain ⟨e,he⟩:=H.el (i:=i) (by omega)
 obtain ⟨x,h0,_⟩:=H.at_ i e he
 have hws:pwWs pw i=x.2:=by unfold pwWs;rw [h0];rfl
 rw [hws] at hw
 exact (H.word h0 hw).2.1
theorem Sheet.told {k:Nat} (hk:k≤3) (gone:List Str) (als:SS):toldP (scopeN es (k+1)) gone als=lawDue (lawScN pw k) gone als:=by
 have r:=H.rel k hk
 unfold toldP lawDue keysX
 rw [r.sorted,List.filter_map,List.map_map,List.map_map]
 have hm:∀ p∈sortS ((lawScN pw k).map (·.1)),getS p (scopeN es (k+1))=getS p (lawScN pw k):=by
  intro p hp
  have hp':=(sortS_perm _).mem_iff.mp hp
  have hne:p≠xmlS:=fun e=>by have:=r.kg p hp';rw [e] at this;revert this;decide +kernel
  unfold getS
  rw [r.lk p hne]
 have e1:(sortS ((lawScN pw k).map (·.1))).filter ((fun p:Str×Str=>!(inB p.2 gone)) ∘ fun p=>(p,getS p (scopeN es (k+1))))=(sortS ((lawScN pw k).map (·.1))).filter fun p=>!(inB (getS p (lawScN pw k)) gone):=by
  refine List.filter_congr fun p hp=>?_
  show (!(inB (getS p (scopeN es (k+1))) gone))=_
  rw [hm p hp]
 rw [e1]
 refine List.map_congr_left fun p hp=>?_
 show (p,(look (getS p (scopeN es (k+1))) als).getD (getS p (scopeN es (k+1))))=(p,(look (getS p (lawScN pw k)) als).getD (getS p (lawScN pw k)))
 rw [hm p (List.mem_filter.mp hp).1]
theorem Sheet.due {k:Nat} (hk:k≤3) {gone:List Str} {als:SS} (hal:∀ x u,look x als=some u→u≠Str.ofString ""):DueOk [(Str.ofString "z",Str.ofString "u:z")] (lawDue (lawScN pw k) gone als):=by
 have r:=H.rel k hk
 obtain ⟨D,hD⟩:∃ D,lawDue (lawScN pw k) gone als=D:=⟨_,rfl⟩
 rw [hD]
 have hkD:D.map (·.1)=(sortS ((lawScN pw k).map (·.1))).filter fun p=>!(inB (getS p (lawScN pw k)) gone):=by
  rw [← hD]
  unfold lawDue
  rw [List.map_map,List.map_map]
  show List.map (fun x=>x) _=_
  rw [List.map_id']
 have hnd:(D.map (·.1)).Nodup:=by
  rw [hkD]
  exact ((sortS_perm _).nodup_iff.mpr r.ng).filter _
 have hkU:∀ x∈D,x.1∈U4:=by
  intro x hx
  have:x.1∈D.map (·.1):=List.mem_map_of_mem hx
  rw [hkD] at this
  exact r.kg _ ((sortS_perm _).mem_iff.mp (List.mem_filter.mp this).1)
 have hDl:D.length≤4:=by
  have:=nodup_len _ U4 hnd (fun x hx=>by obtain ⟨y,hy,e⟩:=List.mem_map.mp hx;exact e▸hkU y hy)
  rwa [List.length_map] at this
 have neU:∀ x∈D,∀ y,y ∉ U4→strB x.1 y=false:=fun x hx y hy=>strB_ne fun e=>hy (e▸hkU x hx)
 refine ⟨fun j x hj=>?_,fun x hx=>?_,fun x hx=>⟨neU x hx _ (by decide +kernel),neU x hx _ (by decide +kernel),neU x hx _ (by decide +kernel)⟩,by show 1+D.length<100;omega⟩
 ·refine look_not fun hm=>?_
  rw [List.map_append,List.mem_append] at hm
  rcases hm with z|z
  ·simp at z
   have:=hkU x (List.mem_of_getElem? hj)
   rw [z] at this;revert this;decide +kernel
  ·obtain ⟨y,hy,e⟩:=List.mem_map.mp z
   obtain ⟨l,hl⟩:=List.mem_iff_getElem?.mp hy
   have hll:l<j:=by have:=(List.getElem?_eq_some_iff.mp hl).1;simp at this;omega
   rw [List.getElem?_take_of_lt hll] at hl
   have n1:(D.map (·.1))[l]?=some x.1:=by rw [List.getElem?_map,hl];exact congrArg some e
   have n2:(D.map (·.1))[j]?=some x.1:=by rw [List.getElem?_map,hj];rfl
   have:=(List.getElem?_inj (List.getElem?_eq_some_iff.mp n1).1 hnd).mp (n1.trans n2.symm)
   omega
 ·refine strB_ne ?_
  rw [← hD] at hx
  unfold lawDue at hx
  obtain ⟨q,hq,rfl⟩:=List.mem_map.mp hx
  obtain ⟨p,hp,rfl⟩:=List.mem_map.mp hq
  have hp':=(sortS_perm _).mem_iff.mp (List.mem_filter.mp hp).1
  obtain ⟨v,hv⟩:=look_mem hp'
  have hg:getS p (lawScN pw k)=v:=by unfold getS;rw [hv];rfl
  show (look (getS p (lawScN pw k)) als).getD (getS p (lawScN pw k))≠_
  rw [hg]
  cases q:look v als with
 |none=>exact r.uri p v hv
 |some u=>exact hal v u q
end
theorem TV.updAt {rows:List Row} {es:List El} {i:Nat} {e:El} {w v:Row} {j y:Nat} {loc uri old nm value:Str} (tv:TV rows es) (he:es[i]?=some e) (hw:rows[i+1]?=some w) (hj:w.at_[j]?=some y) (hy:rows[y]?=some v) (ha:e.ats[j]?=some (loc,uri,old)):
  TV (rows.set y { v with name:=nm,value:=value }) (es.set i { e with ats:=e.ats.set j (loc,uri,value) }):=by
 obtain ⟨w0,hw0,k0,k1,k2,k3,k4⟩:=tv.el i e he
 rw [hw] at hw0
 cases hw0
 obtain ⟨v0,p0,b1,b2,b3,b4,b5,b6,b7⟩:=k4.2.2 j y hj
 rw [hy] at b1;cases b1
 rw [ha] at b2;cases b2
 dsimp only at b3 b4 b5
 have hyl:=(List.getElem?_eq_some_iff.mp hy).1
 have oth:∀ (z:Nat) (u:Row),rows[z]?=some u→u.kind≠Str.ofString "attribute"→(rows.set y { v with name:=nm,value:=value })[z]?=some u:=by
  intro z u hz hu
  have hne:y≠z:=fun e=>by rw [e,hz] at hy;cases hy;exact hu b6
  rw [List.getElem?_set_ne hne];exact hz
 have kns:∀ ns ps,NsOk rows ns ps→NsOk (rows.set y { v with name:=nm,value:=value }) ns ps:=fun ns ps h=>⟨h.1,fun i n hn=>by
  obtain ⟨u,p,h1,h2,h3,h4,h5⟩:=h.2 i n hn
  exact ⟨u,p,oth _ _ h1 (by rw [h5];decide +kernel),h2,h3,h4,h5⟩⟩
 refine ⟨?_,fun l x hx=>?_⟩
 ·obtain ⟨r,r1,r2,r3,r4⟩:=tv.root
  exact ⟨r,oth _ _ r1 (by rw [r2];decide +kernel),r2,r3,r4⟩
 ·by_cases hil:i=l
  ·subst hil
   have hx':x={ e with ats:=e.ats.set j (loc,uri,value) }:=by
    rw [List.getElem?_set_self (List.getElem?_eq_some_iff.mp he).1] at hx
    cases hx;rfl
   subst hx'
   refine ⟨w,oth _ _ hw (by rw [k0];decide +kernel),k0,k1,k2,kns _ _ k3,⟨by rw [List.length_set];exact k4.1,k4.2.1,fun z n hn=>?_⟩⟩
   by_cases hzj:j=z
   ·subst hzj
    rw [hj] at hn;cases hn
    refine ⟨_,(loc,uri,value),List.getElem?_set_self hyl,?_,b3,b4,rfl,b6,b7⟩
    exact List.getElem?_set_self (List.getElem?_eq_some_iff.mp ha).1
   ·obtain ⟨u,p,h1,h2,h3⟩:=k4.2.2 z n hn
    have hne:y≠n:=fun e=>by
     rw [← e] at hn
     have hinj:=(List.getElem?_inj (List.getElem?_eq_some_iff.mp hj).1 k4.2.1).mp (hj.trans hn.symm)
     exact hzj hinj
    exact ⟨u,p,by rw [List.getElem?_set_ne hne];exact h1,by rw [List.getElem?_set_ne hzj];exact h2,h3⟩
  ·rw [List.getElem?_set_ne hil] at hx
   obtain ⟨u,u0,u1,u2,u3,u4,u5⟩:=tv.el l x hx
   refine ⟨u,oth _ _ u0 (by rw [u1];decide +kernel),u1,u2,u3,kns _ _ u4,⟨u5.1,u5.2.1,fun z n hn=>?_⟩⟩
   obtain ⟨u',p,h1,h2,h3,h4,h5,h6,h7⟩:=u5.2.2 z n hn
   have hne:y≠n:=fun e=>by
    rw [← e,hy] at h1;cases h1
    rw [b7] at h7
    have:i+1=l+1:=by simpa using h7
    omega
   exact ⟨u',p,by rw [List.getElem?_set_ne hne];exact h1,h2,h3,h4,h5,h6,h7⟩
theorem attr_set {l u old v:Str} {ats:List (Str×Str×Str)}:∀ {j:Nat},ats[j]?=some (l,u,old)→(∀ i,i<j→∀ p,ats[i]?=some p→(strB p.1 l&&strB p.2.1 u)=false)→attrOf l u (ats.set j (l,u,v))=some v:=by
 induction ats with
|nil=>intro j h;cases h
|cons p r ih=>
  intro j h hn
  cases j with
 |zero=>
   rw [List.set_cons_zero,attrOf,strB_self,strB_self];rfl
 |succ j=>
   rw [List.set_cons_succ,attrOf,hn 0 (Nat.zero_lt_succ _) p rfl]
   exact ih h fun i hi q hq=>hn (i+1) (Nat.succ_lt_succ hi) q hq
theorem attr_app {l u v:Str} {ats:List (Str×Str×Str)}:(∀ p∈ats,(strB p.1 l&&strB p.2.1 u)=false)→attrOf l u (ats++[(l,u,v)])=some v:=by
 induction ats with
|nil=>
  intro _
  rw [List.nil_append,attrOf,strB_self,strB_self];rfl
|cons p r ih=>
  intro hn
  rw [List.cons_append,attrOf,hn p (.head _)]
  exact ih fun q hq=>hn q (.tail _ hq)
theorem attr_set_ne {l l' u u' old v:Str} (hne:strB l l'=false) {ats:List (Str×Str×Str)}:∀ {j:Nat},ats[j]?=some (l,u,old)→attrOf l' u' (ats.set j (l,u,v))=attrOf l' u' ats:=by
 induction ats with
|nil=>intro j h;cases h
|cons p r ih=>
  intro j h
  cases j with
 |zero=>
   obtain rfl:=Option.some.inj h
   rw [List.set_cons_zero,attrOf,attrOf,hne];rfl
 |succ j=>rw [List.set_cons_succ,attrOf,attrOf,ih h]
theorem attr_app_ne {l l' u u' v:Str} (hne:strB l l'=false) {ats:List (Str×Str×Str)}:attrOf l' u' (ats++[(l,u,v)])=attrOf l' u' ats:=by
 induction ats with
|nil=>rw [List.nil_append,attrOf];show (bif strB l l'&&_ then _ else _)=_;rw [hne];rfl
|cons p r ih=>rw [List.cons_append,attrOf,attrOf,ih]
end
theorem setRow_nv {n v:Str} {r:Row}:setRow "value" v (setRow "name" n r)={ r with name:=n,value:=v }:=rfl
noncomputable abbrev Z0o (a:Nat) (b c d e:Str):Vars:=[("self",L0),("element",.nat a),("name",.str b),("uri",.str c),("local",.str d),("value",.str e),("row",.loc 0 (.row a))]
noncomputable abbrev Z1u (a:Nat) (b c d e:Str):Vars:=[("self",L0),("element",.nat a),("name",.str b),("uri",.str c),("local",.str d),("value",.str e),("row",.loc 0 (Part.of a RK.row))]
noncomputable abbrev Z3q:List Str:=["self","element","name","uri","local","value","row"]
section
variable {g:Cx} (G:Gl g TT) (n:Nat)
include G
theorem sa_no1 {t:List Row} {i j:Nat} {na u lo v:Str} {r:Row} (h:t[j]?=some r) (h1:strB r.uri u=false):SsR g (n+1) (fun i=>i<1) (scF 475) (setL "node" (.nat j) (Z0o i na u lo v)) (ssF 475 [1]) [.tree t] .next ((Z1u i na u lo v)) ([.tree t]):=
 .gz G [.o,.row r,.b false,.gc [0] Z3q] (.c (Nat.ble_eq_true_of_le (List.getElem?_eq_some_iff.mp h).1) (.c h (.c h1 .n)))
theorem sa_no2 {t:List Row} {i j:Nat} {na u lo v:Str} {r:Row} (h:t[j]?=some r) (h1:strB r.uri u=true) (h2:strB r.loc lo=false):SsR g (n+1) (fun i=>i<1) (scF 475) (setL "node" (.nat j) (Z0o i na u lo v)) (ssF 475 [1]) [.tree t] .next ((Z1u i na u lo v)) ([.tree t]):=
 .gz G [.o,.row r,.b true,.row r,.b false,.gc [0] Z3q] (.c (Nat.ble_eq_true_of_le (List.getElem?_eq_some_iff.mp h).1) (.c h (.c h1 (.c h (.c h2 .n)))))
theorem sa_yes {t:List Row} {i j:Nat} {na u lo v:Str} {r:Row} (h:t[j]?=some r) (h1:strB r.uri u=true) (h2:strB r.loc lo=true):SsR g (n+1) (fun i=>i<1) (scF 475) (setL "node" (.nat j) (Z0o i na u lo v)) (ssF 475 [1]) [.tree t] (Fl.ret (.nat j)) ((setL "known" (.loc 0 (.row j)) (setL "node" (.nat j) (Z0o i na u lo v)))) ([.tree (t.set j { r with name:=na,value:=v })]):=
 .gy G [.o,.row r,.b true,.row r,.b true,.row r,.row (setRow "name" na r)] (.c (Nat.ble_eq_true_of_le (List.getElem?_eq_some_iff.mp h).1) (.c h (.c h1 (.c h (.c h2 (.c h (.c (List.getElem?_set_self (List.getElem?_eq_some_iff.mp h).1:(t.set j (setRow (Q_ "name") na r))[j]?=some (setRow (Q_ "name") na r)) .n))))))) ⟨rfl,rfl,(congrArg (fun t=>[AObj.tree t]) (List.set_set ..):[AObj.tree ((t.set j (setRow (Q_ "name") na r)).set j (setRow (Q_ "value") v (setRow (Q_ "name") na r)))]=[.tree (t.set j { r with name:=na,value:=v })])⟩
theorem sa_no {t:List Row} {i j:Nat} {na u lo v:Str} {r:Row} (h:t[j]?=some r) (h1:(strB r.loc lo&&strB r.uri u)=false):SsR g (n+1) (fun i=>i<1) (scF 475) (setL "node" (.nat j) (Z0o i na u lo v)) (ssF 475 [1]) [.tree t] .next (Z0o i na u lo v) [.tree t]:=by
 cases z:strB r.uri u with
|false=>exact sa_no1 G n h z
|true=>rw [z,Bool.and_true] at h1;exact sa_no2 G n h z h1
theorem sa_loop0 {t:List Row} {i own:Nat} {na u lo v:Str} {M:List Nat} {ats:List (Str×Str×Str)} (hl:listOf [.tree t] (.loc 0 (.att i))=some (intsAV M)) (H:AtOk t own M ats) (h:attrOf lo u ats=none):
  ∃ kk,LoR g (n+1) (fun i=>i<1) (scF 475) (forT (stF 475 [] 1)) (ssF 475 [1]) (.lst (.loc 0 (.att i))) .next (Z0o i na u lo v) [.tree t] kk 0 (Z0o i na u lo v) [.tree t]:=
 LoR.same hl fun j hj=>by
  obtain ⟨q,hq⟩:=List.getElem?_of_mem hj
  obtain ⟨w,p,h1,h2,h3,h4,_⟩:=H.2.2 q j hq
  exact ⟨_,.nm (k:=Q_ "node") (by kernel_rfl),sa_no G n h1 (by rw [h3,h4];exact attrOf_none h p (List.mem_of_getElem? h2))⟩
theorem sa_loop1 {t:List Row} {i own y j:Nat} {na u lo v:Str} {M:List Nat} {r:Row} {ats:List (Str×Str×Str)} {p:Str×Str×Str} (hl:listOf [.tree t] (.loc 0 (.att i))=some (intsAV M)) (H:AtOk t own M ats) (hy:M[j]?=some y) (hr:t[y]?=some r) (hj:ats[j]?=some p) (hp:(strB p.1 lo&&strB p.2.1 u)=true) (h:∀ i q,i<j→ats[i]?=some q→(strB q.1 lo&&strB q.2.1 u)=false):
  ∃ kk,LoR g (n+1) (fun i=>i<1) (scF 475) (forT (stF 475 [] 1)) (ssF 475 [1]) (.lst (.loc 0 (.att i))) (.ret (.nat y)) (setL "known" (.loc 0 (.row y)) (setL "node" (.nat y) (Z0o i na u lo v))) [.tree (t.set y { r with name:=na,value:=v })] kk 0 (Z0o i na u lo v) [.tree t]:=by
 refine LoR.steps (fun _=>(Z0o i na u lo v)) (fun _=>[.tree t]) (j:=j) (fun a ha=>?_) (.ret rfl ((srcAt_lst hl).trans (congrArg some (ints_some hy))) (.nm (k:=Q_ "node") (by kernel_rfl)) ?_)
 ·have hM:a<M.length:=Nat.lt_trans ha (List.getElem?_eq_some_iff.mp hy).1
  have ha':=List.getElem?_eq_getElem hM
  obtain ⟨w,q,h1,h2,h3,h4,_⟩:=H.2.2 a M[a] ha'
  exact ⟨.nat M[a],_,(srcAt_lst hl).trans (congrArg some (ints_some ha')),.nm (k:=Q_ "node") (by kernel_rfl),sa_no G n h1 (by rw [h3,h4];exact h a q ha h2)⟩
 ·obtain ⟨w,q,h1,h2,h3,h4,h5,_⟩:=H.2.2 j y hy
  obtain rfl:=Option.some.inj (hj.symm.trans h2)
  obtain rfl:=Option.some.inj (hr.symm.trans h1)
  rw [Bool.and_eq_true,← h3,← h4] at hp
  exact sa_yes G n hr hp.2 hp.1
theorem sa0_cr {t:List Row} {i own:Nat} {na u lo v:Str} {w:Row} {ats:List (Str×Str×Str)} (hw:t[i]?=some w) (hk:strB w.kind (Q_ "element")=true) (H:AtOk t own w.at_ ats) (h:Nat.blt t.length cap=true) (hc:Nat.blt w.at_.length cap=true) (hn:attrOf lo u ats=none):CR g (n+5) 475 [L0,.nat i,.str na,.str u,.str lo,.str v] [.tree t] (.int (Int.ofNat t.length)) ([.tree ((t++[Row.mk "attribute" na u lo v (some i) [] [] []]).set i (rowP t.length RK.att w))]):=
 .gz G [.call [0] (.loc 0 (Part.of i RK.row)) [.tree t],.row w,.row w,.loop .next (Z1u i na u lo v) [.tree t],.call [0] (.int (Int.ofNat t.length)) [.tree (t++[Row.mk "attribute" na u lo v (some i) [] [] []])],.row w,.row w,.row w,.o] (.c (elrow_cr G (n+1) hw hk) (.c hw (.c hw (.c (sa_loop0 G (n+3) (listOf_row rfl hw rfl) H hn:∃ k,LoR g (n+3+1) (fun i=>i<1) (scF 475) (forT (stF 475 [] 1)) (ssF 475 [1]) (Src.lst (AV.loc 0 (Part.of i RK.att))) Fl.next [(Q_ "self",L0),(Q_ "element",AV.nat i),(Q_ "name",AV.str na),(Q_ "uri",AV.str u),(Q_ "local",AV.str lo),(Q_ "value",AV.str v),(Q_ "row",AV.loc 0 (Part.of i RK.row))] [AObj.tree t] k 0 [(Q_ "self",L0),(Q_ "element",AV.nat i),(Q_ "name",AV.str na),(Q_ "uri",AV.str u),(Q_ "local",AV.str lo),(Q_ "value",AV.str v),(Q_ "row",AV.loc 0 (Part.of i RK.row))] [AObj.tree t]) (.c (VIn.loc (Nat.zero_lt_succ _):SrcIn (fun i=>i<1) (Src.lst (AV.loc 0 (Part.of i RK.att)))) (.c (new1_cr G n h:CR g (n+3+1) 412 [L0,.str "attribute",.str na,.str u,.str lo,.str v,.nat i] [.tree t] (.int (Int.ofNat t.length)) [.tree (t++[Row.mk "attribute" na u lo v (some i) [] [] []])]) (.c (at1 hw _:(t++[Row.mk (Q_ "attribute") na u lo v (some i) [] [] []])[i]?=some w) (.c (at1 hw _:(t++[Row.mk (Q_ "attribute") na u lo v (some i) [] [] []])[i]?=some w) (.c (at1 hw _:(t++[Row.mk (Q_ "attribute") na u lo v (some i) [] [] []])[i]?=some w) (.c hc .n))))))))))
theorem sa1_cr {t:List Row} {i own:Nat} {na u lo v:Str} {w:Row} {ats:List (Str×Str×Str)} (hw:t[i]?=some w) (hk:strB w.kind (Q_ "element")=true) (H:AtOk t own w.at_ ats) {y j:Nat} {r:Row} {p:Str×Str×Str} (hy:w.at_[j]?=some y) (hr:t[y]?=some r) (hj:ats[j]?=some p) (hp:(strB p.1 lo&&strB p.2.1 u)=true) (h:∀ i q,i<j→ats[i]?=some q→(strB q.1 lo&&strB q.2.1 u)=false):CR g (n+5) 475 [L0,.nat i,.str na,.str u,.str lo,.str v] [.tree t] (.nat y) ([.tree (t.set y (Row.mk r.kind na r.uri r.loc v r.par r.ch r.at_ r.ns))]):=
 .gz G [.call [0] (.loc 0 (Part.of i RK.row)) [.tree t],.row w,.row w,.loop (Fl.ret (.nat y)) [("self",L0),("element",.nat i),("name",.str na),("uri",.str u),("local",.str lo),("value",.str v),("row",.loc 0 (Part.of i RK.row)),("node",.nat y),("known",.loc 0 (Part.of y RK.row))] [.tree (t.set y (Row.mk r.kind na r.uri r.loc v r.par r.ch r.at_ r.ns))]] (.c (elrow_cr G (n+1) hw hk) (.c hw (.c hw (.c (sa_loop1 G (n+3) (listOf_row rfl hw rfl) H hy hr hj hp h:∃ k,LoR g (n+3+1) (fun i=>i<1) (scF 475) (forT (stF 475 [] 1)) (ssF 475 [1]) (Src.lst (AV.loc 0 (Part.of i RK.att))) (Fl.ret (AV.nat y)) [(Q_ "self",L0),(Q_ "element",AV.nat i),(Q_ "name",AV.str na),(Q_ "uri",AV.str u),(Q_ "local",AV.str lo),(Q_ "value",AV.str v),(Q_ "row",AV.loc 0 (Part.of i RK.row)),(Q_ "node",AV.nat y),(Q_ "known",AV.loc 0 (Part.of y RK.row))] [AObj.tree (t.set y (Row.mk r.kind na r.uri r.loc v r.par r.ch r.at_ r.ns))] k 0 [(Q_ "self",L0),(Q_ "element",AV.nat i),(Q_ "name",AV.str na),(Q_ "uri",AV.str u),(Q_ "local",AV.str lo),(Q_ "value",AV.str v),(Q_ "row",AV.loc 0 (Part.of i RK.row))] [AObj.tree t]) (.c (VIn.loc (Nat.zero_lt_succ _):SrcIn (fun i=>i<1) (Src.lst (AV.loc 0 (Part.of i RK.att)))) .n)))))
theorem setat_cr {t:List Row} {es:List El} {i:Nat} {e:El} {na u lo v:Str} (tv:TV t es) (he:es[i]?=some e) (hl:t.length<1000) (ha:e.ats.length<1000):
  ∃ x t' ats',CR g (n+5) 475 [L0,.nat (i+1),.str na,.str u,.str lo,.str v] [.tree t] (.nat x) [.tree t']∧t'.length≤t.length+1∧TV t' (es.set i { e with ats:=ats' })∧attrOf lo u ats'=some v∧(∀ l u',strB lo l=false→attrOf l u' ats'=attrOf l u' e.ats)∧(attrOf lo u e.ats=none→ats'=e.ats++[(lo,u,v)]):=by
 obtain ⟨w,hw,hk,_,_,_,H⟩:=tv.el i e he
 cases hn:attrOf lo u e.ats with
|none=>exact ⟨_,_,e.ats++[(lo,u,v)],sa0_cr G n hw (by rw [hk];exact strB_self _) H (Nat.ble_eq_true_of_le (Nat.le_trans hl (Nat.le_of_ble_eq_true rfl))) (Nat.ble_eq_true_of_le (Nat.le_trans (H.1▸ha) (Nat.le_of_ble_eq_true rfl))) hn,by rw [List.length_set,List.length_append];exact Nat.le_refl _,tv.addAt he hw,attr_app (attrOf_none hn),fun l u' hne=>attr_app_ne hne,fun _=>rfl⟩
|some old=>
  obtain ⟨j,⟨p1,p2,p3⟩,h1,h2,h3,h4⟩:=attrOf_some hn
  have hj:j<w.at_.length:=by rw [H.1];exact (List.getElem?_eq_some_iff.mp h1).1
  have hy:=List.getElem?_eq_getElem hj
  obtain ⟨r,q,k1,k2,_⟩:=H.2.2 j _ hy
  have h2':=(Bool.and_eq_true _ _).mp h2
  obtain rfl:=strB_iff.mp h2'.1
  obtain rfl:=strB_iff.mp h2'.2
  exact ⟨_,_,_,sa1_cr G n hw (by rw [hk];exact strB_self _) H hy k1 h1 h2 h4,by rw [List.length_set];exact Nat.le_succ _,tv.updAt he hw hy k1 h1,attr_set h1 fun i hi q e=>h4 i q hi e,fun l u' hne=>attr_set_ne hne h1,fun z=>nomatch z⟩
end
noncomputable def asIf (st:Stmt):Option {q:Expr×List Stmt×List Stmt // ∃ p,st=.If q.1 q.2.1 q.2.2 p}:=match st with
|.If t b e p=>some ⟨(t,b,e),p,rfl⟩
|_=>none
noncomputable def isIf (st:Stmt):Bool:=(asIf st).isSome
noncomputable def elsS (st:Stmt):List Stmt:=match st with
|.If _ _ o _=>o
|_=>[]
noncomputable def someS (sc:SS):List Str:=sortS ((sc.map (·.1)).filter fun k=>!strB k "xsl")
section
variable {g:Cx} (G:Gl g TT) (n:Nat)
include G
theorem one0_cr {x y x1 y1:Int} {l:List Str} {d:Nat} {u:Str} (C:CR g (n+2) 686 [L0,.nat l.length] [.src x y] (.nat d) [.src x1 y1]) (hu:l[d]?=some u):CR g (n+3) 693 [L0,L1] [.src x y,.txs l] (.str u) ([.src x1 y1,.txs l]):=
 .gz G [.call [0] (.nat d) [.src x1 y1],.v (.str u)] (.c C (.c hu .n))
theorem one_cr (X:Orc g n) {l:List Str} (h0:0<l.length) (h1:l.length<10) (x y:Int):∃ u x' y',u∈l∧CR g (n+3) 693 [L0,L1] [.src x y,.txs l] (.str u) [.src x' y',.txs l]:=by
 obtain ⟨d,x',y',hd,C⟩:=X.take n l.length x y h0 h1
 exact ⟨l[d],x',y',List.getElem_mem hd,one0_cr G n C (List.getElem?_eq_getElem hd)⟩
omit G in
theorem SsR.less {m:Nat} {D:Nat→Prop} {sc:Scope} {vs vs' vs'':Vars} {ss:List Stmt} {a a':Hp} {f:Fl} (H:SsR g m D sc vs ss a f vs' a') (h':SubV vs'' vs'):SsR g m D sc vs ss a f vs'' a':=fun A env σ hR hE O V Q E k=>H A env σ hR hE O V Q E fun f' σ' F x O' V'=>k f' σ' F x O' (V'.sub h')
omit G in
theorem LoR.keep {m:Nat} {D:Nat→Prop} {sc:Scope} {tgt:Expr} {body:List Stmt} {src:Src} (base:Vars) (aF:Nat→Hp) {j:Nat} (step:∀ i,i<j→∃ x vs₁ vs₂,srcAt (aF i) i src=some (some x)∧AsR g m sc tgt x base (aF i) vs₁ (aF i)∧SsR g m D sc vs₁ body (aF i) .next vs₂ (aF (i+1))∧SubV base vs₂) (h:srcAt (aF j) j src=some none):∃ k,LoR g m D sc tgt body src .next base (aF j) k 0 base (aF 0):=
 LoR.all (fun _=>base) aF (fun i hi=>by obtain ⟨x,vs₁,_,h1,h2,h3,h4⟩:=step i hi;exact ⟨x,vs₁,h1,h2,h3.less h4⟩) h
end
theorem delL_none {p:Str} {f:SS}:look p f=none→delL p f=f:=by
 induction f with
|nil=>exact fun _=>rfl
|cons q r ih=>
  intro h
  rw [look] at h
  rw [delL]
  cases z:strB p q.1 with
 |true=>rw [z] at h;cases h
 |false=>rw [z] at h;rw [cond_false,ih h]
theorem AsR.tup2 {g:Cx} {n:Nat} {sc:Scope} {tgt:Expr} {k k':Str} {v x y:AV} {vs:Vars} {a:Hp} (h:tgt2 sc tgt k k'=true) (e:seqOf a v=some [x,y]):AsR g n sc tgt v vs a (setL k' y (setL k x vs)) a:=by
 obtain ⟨⟨q,c,p,rfl⟩,h⟩:=elim_s h
 have h1:=(Bool.and_eq_true _ _).mp h
 have h2:=(Bool.and_eq_true _ _).mp h1.2
 have h3:=(Bool.and_eq_true _ _).mp h2.2
 exact .tup e (.cons h1.1 (.nm h3.1) (.cons h2.1 (.nm h3.2) .nil))
theorem SubV.refl {vs:Vars}:SubV vs vs:=fun _ _ e=>e
noncomputable abbrev Z0t (a b:Nat) (c:AV):Vars:=[("rows",L0),("many",.nat a),("found",L7),("pairs",.loc b .root),("words",c)]
noncomputable abbrev Z41 (a:List Str) (b:SS) (c:List Str) (d:SS) (e:List Str) (f:SS) (r:Hp):Hp:=.list [L1,L3,L5]::.list [L2,.lst (strsAV a)]::.prs b::.list [L4,.lst (strsAV c)]::.prs d::.list [L6,.lst (strsAV e)]::.prs f::r
noncomputable abbrev Z0r (a:List Str) (b:SS) (c:List Str) (d:SS) (e:List Str) (f i:SS) (j:List AV):Hp:=(Z41 a b c d e f [.dss i,.list j])
noncomputable abbrev Z19 (a:List Str) (b:SS) (c:List Str) (d:SS) (e:List Str) (f i:SS) (j k:Str) (l:List AV):Hp:=(Z41 a b c d e f [.dss (lawStep i (j,k)),.list l])
noncomputable abbrev Z1l (a:Nat):Vars:=[("rows",L0),("many",.nat a),("found",L7)]
noncomputable abbrev Z3u (a:Nat) (b:List Str):Vars:=[("rows",L0),("many",.nat a),("found",L7),("pairs",L2),("words",.lst (strsAV b))]
noncomputable abbrev Z3e (a:List Str) (b:SS) (c:List Str) (d:SS) (e:List Str) (f i:SS) (j:List AV):Hp:=(Z41 a b c d e f [.dss (List.foldl lawStep i b),.list j])
noncomputable abbrev Z3v (a:Nat) (b:List Str):Vars:=[("rows",L0),("many",.nat a),("found",L7),("pairs",L4),("words",.lst (strsAV b))]
noncomputable abbrev Z3f (a:List Str) (b:SS) (c:List Str) (d:SS) (e:List Str) (f i:SS) (j:List AV):Hp:=(Z41 a b c d e f [.dss (List.foldl lawStep i d),.list j])
noncomputable abbrev Z3w (a:Nat) (b:List Str):Vars:=[("rows",L0),("many",.nat a),("found",L7),("pairs",L6),("words",.lst (strsAV b))]
noncomputable abbrev Z3g (a:List Str) (b:SS) (c:List Str) (d:SS) (e:List Str) (f i:SS) (j:List AV):Hp:=(Z41 a b c d e f [.dss (List.foldl lawStep i f),.list j])
noncomputable abbrev Z2d (a:List Str) (b:SS) (c:List Str) (d:SS) (e:List Str) (f:SS) (i:Nat):Hp:=(Z41 a b c d e f [.dss (lawScN [(b,a),(d,c),(f,e)] i),.list (List.take i [L1,L3,L5])])
noncomputable abbrev Z18 (a:List Str) (b:SS) (c:List Str) (d:SS) (e:List Str) (f:SS):Hp:=(Z41 a b c d e f [])
noncomputable abbrev Z31 (a:List Str) (b:SS) (c:List Str) (d:SS) (e:List Str) (f:SS) (i:Nat):Hp:=(Z41 a b c d e f [.dss (lawScN [(b,a),(d,c),(f,e)] i)])
noncomputable abbrev Z3p:List Nat:=[0,1,2,3,4,5,6,7]
section
variable {g:Cx} (G:Gl g TT) (n:Nat)
include G
theorem ls_ff {p0 p1 p2:SS} {w0 w1 w2:List Str} {f:SS} {X:List AV} {P many:Nat} {wv:AV} {p u:Str} (hf:f.length≤400) (hp:look p f=none) (hu:strB u (Q_ "")=false):SsR g (n+2) (fun i=>i<9) (scF 708) (setL "uri" (.str u) (setL "prefix" (.str p) (Z0t many P wv))) (ssF 708 [1,0]) (Z0r w0 p0 w1 p1 w2 p2 f X) .next ((setL "uri" (.str u) (setL "prefix" (.str p) (Z0t many P wv)))) ((Z19 w0 p0 w1 p1 w2 p2 f p u X)):=
 .gy G [.b false,.b true,.o] (.c hp (.c ((by rw [hu];rfl):(bif true then !strB u (Q_ "") else strB u (Q_ ""))=true) (.c ((Nat.ble_eq_true_of_le (Nat.le_trans hf (Nat.le_of_ble_eq_true rfl))):f.length.ble 500=true) .n))) ⟨rfl,rfl,(by rw [show lawStep f (p,u)=setL p u f by unfold lawStep;rw [hu,delL_none hp];rfl]:[AObj.list [L1,L3,L5],AObj.list [L2,AV.lst (strsAV w0)],AObj.prs p0,AObj.list [L4,AV.lst (strsAV w1)],AObj.prs p1,AObj.list [L6,AV.lst (strsAV w2)],AObj.prs p2,AObj.dss (setL p u f),AObj.list X]=[.list [.loc 1 .root,.loc 3 .root,.loc 5 .root],.list [.loc 2 .root,.lst (strsAV w0)],.prs p0,.list [.loc 4 .root,.lst (strsAV w1)],.prs p1,.list [.loc 6 .root,.lst (strsAV w2)],.prs p2,.dss (lawStep f (p,u)),.list X])⟩
theorem ls_ft {p0 p1 p2:SS} {w0 w1 w2:List Str} {f:SS} {X:List AV} {P many:Nat} {wv:AV} {p u:Str} (hp:look p f=none) (hu:strB u (Q_ "")=true):SsR g (n+2) (fun i=>i<9) (scF 708) (setL "uri" (.str u) (setL "prefix" (.str p) (Z0t many P wv))) (ssF 708 [1,0]) (Z0r w0 p0 w1 p1 w2 p2 f X) .next ((setL "uri" (.str u) (setL "prefix" (.str p) (Z0t many P wv)))) ((Z19 w0 p0 w1 p1 w2 p2 f p u X)):=
 .gy G [.b false,.b false] (.c hp (.c ((by rw [hu];rfl):(bif true then !strB u (Q_ "") else strB u (Q_ ""))=false) .n)) ⟨rfl,rfl,(by rw [show lawStep f (p,u)=f by unfold lawStep;rw [hu,delL_none hp];rfl]:[AObj.list [L1,L3,L5],AObj.list [L2,AV.lst (strsAV w0)],AObj.prs p0,AObj.list [L4,AV.lst (strsAV w1)],AObj.prs p1,AObj.list [L6,AV.lst (strsAV w2)],AObj.prs p2,AObj.dss f,AObj.list X]=[.list [.loc 1 .root,.loc 3 .root,.loc 5 .root],.list [.loc 2 .root,.lst (strsAV w0)],.prs p0,.list [.loc 4 .root,.lst (strsAV w1)],.prs p1,.list [.loc 6 .root,.lst (strsAV w2)],.prs p2,.dss (lawStep f (p,u)),.list X])⟩
theorem ls_tf {p0 p1 p2:SS} {w0 w1 w2:List Str} {f:SS} {X:List AV} {P many:Nat} {wv:AV} {p u:Str} (hf:f.length≤400) {q:Str} (hp:look p f=some q) (hu:strB u (Q_ "")=false):SsR g (n+2) (fun i=>i<9) (scF 708) (setL "uri" (.str u) (setL "prefix" (.str p) (Z0t many P wv))) (ssF 708 [1,0]) (Z0r w0 p0 w1 p1 w2 p2 f X) .next ((setL "uri" (.str u) (setL "prefix" (.str p) (Z0t many P wv)))) ((Z19 w0 p0 w1 p1 w2 p2 f p u X)):=
 .gy G [.b true,.v (.str q),.o,.b true,.o] (.c hp (.c ((Nat.ble_eq_true_of_le (Nat.le_trans hf (Nat.le_of_ble_eq_true rfl))):f.length.ble 1000=true) (.c ((by rw [hu];rfl):(bif true then !strB u (Q_ "") else strB u (Q_ ""))=true) (.c ((Nat.ble_eq_true_of_le (Nat.le_trans (delL_len _ _) (Nat.le_trans hf (Nat.le_of_ble_eq_true rfl)))):(delL p f).length.ble 500=true) .n)))) ⟨rfl,rfl,(by rw [show lawStep f (p,u)=setL p u (delL p f) by unfold lawStep;rw [hu];rfl]:[AObj.list [L1,L3,L5],AObj.list [L2,AV.lst (strsAV w0)],AObj.prs p0,AObj.list [L4,AV.lst (strsAV w1)],AObj.prs p1,AObj.list [L6,AV.lst (strsAV w2)],AObj.prs p2,AObj.dss (setL p u (delL p f)),AObj.list X]=[.list [.loc 1 .root,.loc 3 .root,.loc 5 .root],.list [.loc 2 .root,.lst (strsAV w0)],.prs p0,.list [.loc 4 .root,.lst (strsAV w1)],.prs p1,.list [.loc 6 .root,.lst (strsAV w2)],.prs p2,.dss (lawStep f (p,u)),.list X])⟩
theorem ls_tt {p0 p1 p2:SS} {w0 w1 w2:List Str} {f:SS} {X:List AV} {P many:Nat} {wv:AV} {p u:Str} (hf:f.length≤400) {q:Str} (hp:look p f=some q) (hu:strB u (Q_ "")=true):SsR g (n+2) (fun i=>i<9) (scF 708) (setL "uri" (.str u) (setL "prefix" (.str p) (Z0t many P wv))) (ssF 708 [1,0]) (Z0r w0 p0 w1 p1 w2 p2 f X) .next ((setL "uri" (.str u) (setL "prefix" (.str p) (Z0t many P wv)))) ((Z19 w0 p0 w1 p1 w2 p2 f p u X)):=
 .gy G [.b true,.v (.str q),.o,.b false] (.c hp (.c ((Nat.ble_eq_true_of_le (Nat.le_trans hf (Nat.le_of_ble_eq_true rfl))):f.length.ble 1000=true) (.c ((by rw [hu];rfl):(bif true then !strB u (Q_ "") else strB u (Q_ ""))=false) .n))) ⟨rfl,rfl,(by rw [show lawStep f (p,u)=delL p f by unfold lawStep;rw [hu];rfl]:[AObj.list [L1,L3,L5],AObj.list [L2,AV.lst (strsAV w0)],AObj.prs p0,AObj.list [L4,AV.lst (strsAV w1)],AObj.prs p1,AObj.list [L6,AV.lst (strsAV w2)],AObj.prs p2,AObj.dss (delL p f),AObj.list X]=[.list [.loc 1 .root,.loc 3 .root,.loc 5 .root],.list [.loc 2 .root,.lst (strsAV w0)],.prs p0,.list [.loc 4 .root,.lst (strsAV w1)],.prs p1,.list [.loc 6 .root,.lst (strsAV w2)],.prs p2,.dss (lawStep f (p,u)),.list X])⟩
theorem ls_turn {p0 p1 p2:SS} {w0 w1 w2:List Str} {f:SS} {X:List AV} {P many:Nat} {wv:AV} {p u:Str} (hf:f.length≤400):SsR g (n+2) (fun i=>i<9) (scF 708) (setL "uri" (.str u) (setL "prefix" (.str p) (Z0t many P wv))) (ssF 708 [1,0]) (Z0r w0 p0 w1 p1 w2 p2 f X) .next (setL "uri" (.str u) (setL "prefix" (.str p) (Z0t many P wv))) (Z19 w0 p0 w1 p1 w2 p2 f p u X):=by
 cases hu:strB u "" with
|false=>cases hp:look p f with
 |none=>exact ls_ff G n hf hp hu
 |some q=>exact ls_tf G n hf hp hu
|true=>cases hp:look p f with
 |none=>exact ls_ft G n hp hu
 |some q=>exact ls_tt G n hf hp hu
theorem ls_inner {p0 p1 p2:SS} {w0 w1 w2:List Str} {f:SS} {X:List AV} {P many:Nat} {wv:AV} {ps:SS} (hl:∀ f,listOf (Z0r w0 p0 w1 p1 w2 p2 f X) (.loc P .root)=some (prsAV ps)) (hf:f.length+ps.length≤400):
  ∃ kk,LoR g (n+2) (fun i=>i<9) (scF 708) (forT (stF 708 [1] 0)) (ssF 708 [1,0]) (.lst (.loc P .root)) .next (Z0t many P wv) (Z41 w0 p0 w1 p1 w2 p2 [.dss (ps.foldl lawStep f),.list X]) kk 0 (Z0t many P wv) (Z0r w0 p0 w1 p1 w2 p2 f X):=by
 have L:=LoR.keep (g:=g) (m:=n+2) (D:=fun i=>i<9) (sc:=scF 708) (tgt:=forT (stF 708 [1] 0)) (body:=ssF 708 [1,0]) (src:=.lst (.loc P .root)) (Z0t many P wv) (fun j=>(Z41 w0 p0 w1 p1 w2 p2 [.dss ((ps.take j).foldl lawStep f),.list X])) (j:=ps.length) (fun j hj=>?_) ?_
 ·rw [List.take_length] at L;exact L
 ·have hx:=List.getElem?_eq_getElem hj
  refine ⟨.tup [.str ps[j].1,.str ps[j].2],_,(setL "uri" (.str ps[j].2) (setL "prefix" (.str ps[j].1) (Z0t many P wv))),(srcAt_lst (hl _)).trans (by rw [prsAV,List.getElem?_map,hx];rfl),.nm2 (k:=Q_ "prefix") (k':=Q_ "uri") (by kernel_rfl),?_,(SubV.refl.new (k:=Q_ "prefix") (by kernel_rfl)).new (k:=Q_ "uri") (by kernel_rfl)⟩
  rw [List.take_succ_eq_append_getElem hj,List.foldl_append]
  refine ls_turn G n (Nat.le_trans (lawFold_len (ps.take j) f) ?_)
  rw [List.length_take];omega
 ·exact (srcAt_lst (hl _)).trans (by rw [List.getElem?_eq_none_iff.mpr (by rw [prsAV,List.length_map];exact Nat.le_refl _)])
theorem ls_outer0 {p0 p1 p2:SS} {w0 w1 w2:List Str} {f:SS} {X:List AV} {many:Nat} (hf:f.length+p0.length≤400):SsR g (n+2) (fun i=>i<9) (scF 708) (setL "words" (.lst (strsAV w0)) (setL "pairs" L2 (Z1l many))) (ssF 708 [1]) (Z0r w0 p0 w1 p1 w2 p2 f X) .next ((Z3u many w0)) ((Z3e w0 p0 w1 p1 w2 p2 f X)):=
 .gz G [.loop .next (Z3u many w0) (Z3e w0 p0 w1 p1 w2 p2 f X)] (.c (ls_inner G n (ps:=p0) (fun f=>listOf_of (o:=.prs p0) rfl rfl) hf:∃ k,LoR g (n+1+1) (fun i=>i<9) (scF 708) (forT (stF 708 [1] 0)) (ssF 708 [1,0]) (Src.lst L2) Fl.next [(Q_ "rows",L0),(Q_ "many",AV.nat many),(Q_ "found",L7),(Q_ "pairs",L2),(Q_ "words",AV.lst (strsAV w0))] [AObj.list [L1,L3,L5],AObj.list [L2,AV.lst (strsAV w0)],AObj.prs p0,AObj.list [L4,AV.lst (strsAV w1)],AObj.prs p1,AObj.list [L6,AV.lst (strsAV w2)],AObj.prs p2,AObj.dss (List.foldl lawStep f p0),AObj.list X] k 0 [(Q_ "rows",L0),(Q_ "many",AV.nat many),(Q_ "found",L7),(Q_ "pairs",L2),(Q_ "words",AV.lst (strsAV w0))] [AObj.list [L1,L3,L5],AObj.list [L2,AV.lst (strsAV w0)],AObj.prs p0,AObj.list [L4,AV.lst (strsAV w1)],AObj.prs p1,AObj.list [L6,AV.lst (strsAV w2)],AObj.prs p2,AObj.dss f,AObj.list X]) (.c (VIn.loc (Nat.le_of_ble_eq_true rfl):SrcIn (fun i=>i<9) (Src.lst L2)) .n))
theorem ls_outer1 {p0 p1 p2:SS} {w0 w1 w2:List Str} {f:SS} {X:List AV} {many:Nat} (hf:f.length+p1.length≤400):SsR g (n+2) (fun i=>i<9) (scF 708) (setL "words" (.lst (strsAV w1)) (setL "pairs" L4 (Z1l many))) (ssF 708 [1]) (Z0r w0 p0 w1 p1 w2 p2 f X) .next ((Z3v many w1)) ((Z3f w0 p0 w1 p1 w2 p2 f X)):=
 .gz G [.loop .next (Z3v many w1) (Z3f w0 p0 w1 p1 w2 p2 f X)] (.c (ls_inner G n (ps:=p1) (fun f=>listOf_of (o:=.prs p1) rfl rfl) hf:∃ k,LoR g (n+1+1) (fun i=>i<9) (scF 708) (forT (stF 708 [1] 0)) (ssF 708 [1,0]) (Src.lst L4) Fl.next [(Q_ "rows",L0),(Q_ "many",AV.nat many),(Q_ "found",L7),(Q_ "pairs",L4),(Q_ "words",AV.lst (strsAV w1))] [AObj.list [L1,L3,L5],AObj.list [L2,AV.lst (strsAV w0)],AObj.prs p0,AObj.list [L4,AV.lst (strsAV w1)],AObj.prs p1,AObj.list [L6,AV.lst (strsAV w2)],AObj.prs p2,AObj.dss (List.foldl lawStep f p1),AObj.list X] k 0 [(Q_ "rows",L0),(Q_ "many",AV.nat many),(Q_ "found",L7),(Q_ "pairs",L4),(Q_ "words",AV.lst (strsAV w1))] [AObj.list [L1,L3,L5],AObj.list [L2,AV.lst (strsAV w0)],AObj.prs p0,AObj.list [L4,AV.lst (strsAV w1)],AObj.prs p1,AObj.list [L6,AV.lst (strsAV w2)],AObj.prs p2,AObj.dss f,AObj.list X]) (.c (VIn.loc (Nat.le_of_ble_eq_true rfl):SrcIn (fun i=>i<9) (Src.lst L4)) .n))
theorem ls_outer2 {p0 p1 p2:SS} {w0 w1 w2:List Str} {f:SS} {X:List AV} {many:Nat} (hf:f.length+p2.length≤400):SsR g (n+2) (fun i=>i<9) (scF 708) (setL "words" (.lst (strsAV w2)) (setL "pairs" L6 (Z1l many))) (ssF 708 [1]) (Z0r w0 p0 w1 p1 w2 p2 f X) .next ((Z3w many w2)) ((Z3g w0 p0 w1 p1 w2 p2 f X)):=
 .gz G [.loop .next (Z3w many w2) (Z3g w0 p0 w1 p1 w2 p2 f X)] (.c (ls_inner G n (ps:=p2) (fun f=>listOf_of (o:=.prs p2) rfl rfl) hf:∃ k,LoR g (n+1+1) (fun i=>i<9) (scF 708) (forT (stF 708 [1] 0)) (ssF 708 [1,0]) (Src.lst L6) Fl.next [(Q_ "rows",L0),(Q_ "many",AV.nat many),(Q_ "found",L7),(Q_ "pairs",L6),(Q_ "words",AV.lst (strsAV w2))] [AObj.list [L1,L3,L5],AObj.list [L2,AV.lst (strsAV w0)],AObj.prs p0,AObj.list [L4,AV.lst (strsAV w1)],AObj.prs p1,AObj.list [L6,AV.lst (strsAV w2)],AObj.prs p2,AObj.dss (List.foldl lawStep f p2),AObj.list X] k 0 [(Q_ "rows",L0),(Q_ "many",AV.nat many),(Q_ "found",L7),(Q_ "pairs",L6),(Q_ "words",AV.lst (strsAV w2))] [AObj.list [L1,L3,L5],AObj.list [L2,AV.lst (strsAV w0)],AObj.prs p0,AObj.list [L4,AV.lst (strsAV w1)],AObj.prs p1,AObj.list [L6,AV.lst (strsAV w2)],AObj.prs p2,AObj.dss f,AObj.list X]) (.c (VIn.loc (Nat.le_of_ble_eq_true rfl):SrcIn (fun i=>i<9) (Src.lst L6)) .n))
theorem ls_loop {p0 p1 p2:SS} {w0 w1 w2:List Str} {many:Nat} (hm:many≤3) (fw:FewPW [(p0,w0),(p1,w1),(p2,w2)]):
  ∃ kk,LoR g (n+2) (fun i=>i<9) (scF 708) (forT (stF 708 [] 1)) (ssF 708 [1]) (.lst L8) .next (Z1l many) (Z2d w0 p0 w1 p1 w2 p2 many) kk 0 (Z1l many) (Z41 w0 p0 w1 p1 w2 p2 [.dss [],.list (List.take many [L1,L3,L5])]):=by
 have ln:=lawScN_len fw
 have h0:p0.length≤20:=fw.ps _ (.head _)
 have h1:p1.length≤20:=fw.ps _ (.tail _ (.head _))
 have h2:p2.length≤20:=fw.ps _ (.tail _ (.tail _ (.head _)))
 refine LoR.keep (Z1l many) (fun j=>(Z41 w0 p0 w1 p1 w2 p2 [.dss (lawScN [(p0,w0),(p1,w1),(p2,w2)] j),.list (List.take many [L1,L3,L5])])) (j:=many) (fun j hj=>?_) ?_
 ·have hs:∀ (a:Hp) (hl:listOf a L8=some (List.take many [L1,L3,L5])),srcAt a j (.lst L8)=some ([L1,L3,L5][j]?):=fun a hl=>(srcAt_lst hl).trans (congrArg some (List.getElem?_take_of_lt hj))
  have hl:∀ f,listOf (Z41 w0 p0 w1 p1 w2 p2 [.dss f,.list (List.take many [L1,L3,L5])]) L8=some (List.take many [L1,L3,L5]):=fun f=>listOf_of (o:=.list _) rfl rfl
  rcases j with _|_|_|j
  ·exact ⟨_,_,_,hs _ (hl _),.tup2 (k:=Q_ "pairs") (k':=Q_ "words") (by kernel_rfl) rfl,ls_outer0 G n (Nat.le_trans (Nat.add_le_add (ln 0) h0) (Nat.le_of_ble_eq_true rfl)),(SubV.refl.new (k:=Q_ "pairs") (by kernel_rfl)).new (k:=Q_ "words") (by kernel_rfl)⟩
  ·exact ⟨_,_,_,hs _ (hl _),.tup2 (k:=Q_ "pairs") (k':=Q_ "words") (by kernel_rfl) rfl,ls_outer1 G n (Nat.le_trans (Nat.add_le_add (ln 1) h1) (Nat.le_of_ble_eq_true rfl)),(SubV.refl.new (k:=Q_ "pairs") (by kernel_rfl)).new (k:=Q_ "words") (by kernel_rfl)⟩
  ·exact ⟨_,_,_,hs _ (hl _),.tup2 (k:=Q_ "pairs") (k':=Q_ "words") (by kernel_rfl) rfl,ls_outer2 G n (Nat.le_trans (Nat.add_le_add (ln 2) h2) (Nat.le_of_ble_eq_true rfl)),(SubV.refl.new (k:=Q_ "pairs") (by kernel_rfl)).new (k:=Q_ "words") (by kernel_rfl)⟩
  ·exact absurd (Nat.lt_of_lt_of_le hj hm) (Nat.not_lt.mpr (Nat.le_add_left 3 j))
 ·exact (srcAt_lst (listOf_of (o:=.list _) rfl rfl)).trans (congrArg some (List.getElem?_eq_none_iff.mpr (by rw [List.length_take];exact Nat.min_le_left ..)))
theorem lsc_cr {p0 p1 p2:SS} {w0 w1 w2:List Str} {many:Nat} (hm:many≤3) (fw:FewPW [(p0,w0),(p1,w1),(p2,w2)]):CR g (n+3) 708 [L0,.nat many] (Z18 w0 p0 w1 p1 w2 p2) L7 ((Z31 w0 p0 w1 p1 w2 p2 many)):=
 .gz G [.k 4,.loop .next (Z1l many) (Z2d w0 p0 w1 p1 w2 p2 many),.s,.gc Z3p []] (.c (ls_loop G n hm fw) (.c (VIn.loc (Nat.le_of_ble_eq_true rfl):SrcIn (fun i=>i<9) (Src.lst L8)) .n))
end
theorem lg_len {F w:List Str} {f:Str→Str} (h:F.length≤100) (h':w.length≤20):Nat.ble (F.length+(w.map f).length) 1000000=true:=Nat.ble_eq_true_of_le (by rw [List.length_map];omega)
noncomputable abbrev Z1j (a:List Str) (b:SS) (c:List Str) (d:SS) (e:List Str) (f:SS) (i:List Str) (j:SS):Hp:=(Z41 a b c d e f [.txs i,.dss j])
noncomputable abbrev Z20 (a:List Str) (b:SS) (c:List Str) (d:SS) (e:List Str) (f:SS) (i:List Str):Hp:=(Z41 a b c d e f [.txs i])
noncomputable abbrev Z1w (a:Nat):Vars:=[("rows",L0),("many",.nat a),("found",L8)]
noncomputable abbrev Z2r (a:List Str) (b:SS) (c:List Str) (d:SS) (e:List Str) (f:SS):Hp:=(Z41 a b c d e f [.dss (lawScN [(b,a),(d,c),(f,e)] 1)])
noncomputable abbrev Z1o (a:List Str) (b:SS) (c:List Str) (d:SS) (e:List Str) (f:SS) (i:List Str):Hp:=(Z41 a b c d e f [.txs i,.dss (lawScN [(b,a),(d,c),(f,e)] 1)])
noncomputable abbrev Z1g (a:List Str) (b:SS) (c:List Str) (d:SS) (e:List Str) (f:SS) (i j:List Str) (k:SS):Hp:=(Z41 a b c d e f [.txs i,.txs j,.dss k])
noncomputable abbrev Z3o (a:List Str) (b:SS) (c:List Str) (d:SS) (e:List Str) (f:SS) (i j:List Str):Hp:=(Z41 a b c d e f [.txs i,.txs j])
noncomputable abbrev Z2s (a:List Str) (b:SS) (c:List Str) (d:SS) (e:List Str) (f:SS):Hp:=(Z41 a b c d e f [.dss (lawScN [(b,a),(d,c),(f,e)] 2)])
noncomputable abbrev Z1m (a:List Str) (b:SS) (c:List Str) (d:SS) (e:List Str) (f:SS) (i j:List Str):Hp:=(Z41 a b c d e f [.txs i,.txs j,.dss (lawScN [(b,a),(d,c),(f,e)] 2)])
noncomputable abbrev Z3x:List Nat:=[0,1,2,3,4,5,6,7,11]
noncomputable abbrev Z2t (a:List Str) (b:SS) (c:List Str) (d:SS) (e:List Str) (f:SS):Hp:=(Z41 a b c d e f [.dss (lawScN [(b,a),(d,c),(f,e)] 3)])
noncomputable abbrev Z1n (a:List Str) (b:SS) (c:List Str) (d:SS) (e:List Str) (f:SS) (i j:List Str):Hp:=(Z41 a b c d e f [.txs i,.txs j,.dss (lawScN [(b,a),(d,c),(f,e)] 3)])
noncomputable abbrev Z2z (a:List Str) (b:SS) (c:List Str) (d:SS) (e:List Str) (f:SS) (i:Nat):Hp:=(Z41 a b c d e f [.txs (lawGoneN [(b,a),(d,c),(f,e)] i)])
section
variable {g:Cx} (G:Gl g TT) (n:Nat)
include G
theorem lg_ea {p0 p1 p2:SS} {w0 w1 w2:List Str} {F:List Str} {sc:SS} {x q:Str} (h:look x sc=some q):EvR g (n+1) (cSc (exF 718 [1] 1 [1])) (setL "word" (.str x) [("scope",L8)]) (cElt (exF 718 [1] 1 [1])) (Z1j w0 p0 w1 p1 w2 p2 F sc) (.str q) (Z1j w0 p0 w1 p1 w2 p2 F sc):=
 .gz G [.v (.str q)] (.c h .n)
theorem lg_ca {p0 p1 p2:SS} {w0 w1 w2:List Str} {F:List Str} {sc:SS} {w:List Str} (h:∀ x∈w,(look x sc).isSome=true):CoL g (n+1) (cSc (exF 718 [1] 1 [1])) (cGen (exF 718 [1] 1 [1])).target (cElt (exF 718 [1] 1 [1])) (cGen (exF 718 [1] 1 [1])).ifs (.lst (.lst (strsAV w))) (Z1j w0 p0 w1 p1 w2 p2 F sc) w.length 0 [("scope",L8)] (Z1j w0 p0 w1 p1 w2 p2 F sc) (strsAV (w.map fun x=>getS x sc)):=by
 rw [show strsAV (w.map fun x=>getS x sc)=w.filterMap fun x=>some (.str (getS x sc)) by rw [filterMap_some (fun x _=>rfl),strsAV,List.map_map];rfl]
 refine .same1 (k:=Q_ "word") .str _ (by kernel_rfl) (by kernel_rfl) rfl (fun x _ e=>nomatch e) fun x hx y e=>?_
 obtain rfl:=Option.some.inj e
 refine ⟨noIfs (by kernel_rfl),lg_ea G n ?_⟩
 obtain ⟨q,e⟩:=Option.isSome_iff_exists.mp (h x hx)
 unfold getS;rw [e];rfl
theorem lg_t0 {p0 p1 p2:SS} {w0 w1 w2:List Str} {F:List Str} {many:Nat} (fw:FewPW [(p0,w0),(p1,w1),(p2,w2)]) (h:∀ x∈w0,(look x (lawScN [(p0,w0),(p1,w1),(p2,w2)] 1)).isSome=true) (hF:F.length≤100):SsR g (n+4) (fun i=>i<8) (scF 718) (setL "k" (.nat 0) (Z1l many)) (ssF 718 [1]) (Z20 w0 p0 w1 p1 w2 p2 F) .next ((Z1w many)) ((Z41 w0 p0 w1 p1 w2 p2 [.txs F,.txs (F++List.map (fun x=>getS x (lawScN [(p0,w0),(p1,w1),(p2,w2)] 1)) w0)])):=
 .gz G [.call Z2w L7 (Z2r w0 p0 w1 p1 w2 p2),.c,.c,.comp w0.length (strsAV (List.map (fun x=>getS x (lawScN [(p0,w0),(p1,w1),(p2,w2)] 1)) w0)) (.txs (List.map (fun x=>getS x (lawScN [(p0,w0),(p1,w1),(p2,w2)] 1)) w0)) (Z1o w0 p0 w1 p1 w2 p2 F),.o,.gc [0,1,2,3,4,5,6,7,10] ["rows","many","found"]] (.c (lsc_cr G (n+1) (Nat.le_of_ble_eq_true rfl) fw:CR g (n+3+1) 708 [L0,.nat 1] (Z18 w0 p0 w1 p1 w2 p2) L7 (Z2r w0 p0 w1 p1 w2 p2)) (.c (lg_ca G (n+3) h:CoL g (n+3+1) (cSc (exF 718 [1] 1 [1])) (cGen (exF 718 [1] 1 [1])).target (cElt (exF 718 [1] 1 [1])) (cGen (exF 718 [1] 1 [1])).ifs (Src.lst (.lst (strsAV w0))) (Z1o w0 p0 w1 p1 w2 p2 F) w0.length 0 [("scope",L8)] (Z1o w0 p0 w1 p1 w2 p2 F) (strsAV (List.map (fun x=>getS x (lawScN [(p0,w0),(p1,w1),(p2,w2)] 1)) w0))) (.c ((Nat.le_trans (fw.ws (p0,w0) (by simp)) (Nat.le_of_ble_eq_true rfl)):w0.length≤1000000) (.c (rfl:some (strsAV (List.map (fun x=>getS x (lawScN [(p0,w0),(p1,w1),(p2,w2)] 1)) w0))=some (strsAV (List.map (fun x=>getS x (lawScN [(p0,w0),(p1,w1),(p2,w2)] 1)) w0))) (.c ((lg_len hF (fw.ws (p0,w0) (by simp))):(lenO (AObj.txs F)+lenO (AObj.txs (List.map (fun x=>getS x (lawScN [(p0,w0),(p1,w1),(p2,w2)] 1)) w0))).ble 1000000=true) .n)))))
theorem lg_eb {p0 p1 p2:SS} {w0 w1 w2:List Str} {GB:List Str} {F:List Str} {sc:SS} {x q:Str} (h:look x sc=some q):EvR g (n+1) (cSc (exF 718 [1] 1 [1])) (setL "word" (.str x) [("scope",L9)]) (cElt (exF 718 [1] 1 [1])) (Z1g w0 p0 w1 p1 w2 p2 GB F sc) (.str q) (Z1g w0 p0 w1 p1 w2 p2 GB F sc):=
 .gz G [.v (.str q)] (.c h .n)
theorem lg_cb {p0 p1 p2:SS} {w0 w1 w2:List Str} {GB:List Str} {F:List Str} {sc:SS} {w:List Str} (h:∀ x∈w,(look x sc).isSome=true):CoL g (n+1) (cSc (exF 718 [1] 1 [1])) (cGen (exF 718 [1] 1 [1])).target (cElt (exF 718 [1] 1 [1])) (cGen (exF 718 [1] 1 [1])).ifs (.lst (.lst (strsAV w))) (Z1g w0 p0 w1 p1 w2 p2 GB F sc) w.length 0 [("scope",L9)] (Z1g w0 p0 w1 p1 w2 p2 GB F sc) (strsAV (w.map fun x=>getS x sc)):=by
 rw [show strsAV (w.map fun x=>getS x sc)=w.filterMap fun x=>some (.str (getS x sc)) by rw [filterMap_some (fun x _=>rfl),strsAV,List.map_map];rfl]
 refine .same1 (k:=Q_ "word") .str _ (by kernel_rfl) (by kernel_rfl) rfl (fun x _ e=>nomatch e) fun x hx y e=>?_
 obtain rfl:=Option.some.inj e
 refine ⟨noIfs (by kernel_rfl),lg_eb G n ?_⟩
 obtain ⟨q,e⟩:=Option.isSome_iff_exists.mp (h x hx)
 unfold getS;rw [e];rfl
theorem lg_t1 {p0 p1 p2:SS} {w0 w1 w2:List Str} {GB:List Str} {F:List Str} {many:Nat} (fw:FewPW [(p0,w0),(p1,w1),(p2,w2)]) (h:∀ x∈w1,(look x (lawScN [(p0,w0),(p1,w1),(p2,w2)] 2)).isSome=true) (hF:F.length≤100):SsR g (n+4) (fun i=>i<8) (scF 718) (setL "k" (.nat 1) (Z1w many)) (ssF 718 [1]) (Z3o w0 p0 w1 p1 w2 p2 GB F) .next ((Z1w many)) ((Z41 w0 p0 w1 p1 w2 p2 [.txs GB,.txs (F++List.map (fun x=>getS x (lawScN [(p0,w0),(p1,w1),(p2,w2)] 2)) w1)])):=
 .gz G [.call Z2w L7 (Z2s w0 p0 w1 p1 w2 p2),.c,.c,.comp w1.length (strsAV (List.map (fun x=>getS x (lawScN [(p0,w0),(p1,w1),(p2,w2)] 2)) w1)) (.txs (List.map (fun x=>getS x (lawScN [(p0,w0),(p1,w1),(p2,w2)] 2)) w1)) (Z1m w0 p0 w1 p1 w2 p2 GB F),.o,.gc Z3x ["rows","many","found"]] (.c (lsc_cr G (n+1) (Nat.le_of_ble_eq_true rfl) fw:CR g (n+3+1) 708 [L0,.nat 2] (Z18 w0 p0 w1 p1 w2 p2) L7 (Z2s w0 p0 w1 p1 w2 p2)) (.c (lg_cb G (n+3) h:CoL g (n+3+1) (cSc (exF 718 [1] 1 [1])) (cGen (exF 718 [1] 1 [1])).target (cElt (exF 718 [1] 1 [1])) (cGen (exF 718 [1] 1 [1])).ifs (Src.lst (.lst (strsAV w1))) (Z1m w0 p0 w1 p1 w2 p2 GB F) w1.length 0 [("scope",L9)] (Z1m w0 p0 w1 p1 w2 p2 GB F) (strsAV (List.map (fun x=>getS x (lawScN [(p0,w0),(p1,w1),(p2,w2)] 2)) w1))) (.c ((Nat.le_trans (fw.ws (p1,w1) (by simp)) (Nat.le_of_ble_eq_true rfl)):w1.length≤1000000) (.c (rfl:some (strsAV (List.map (fun x=>getS x (lawScN [(p0,w0),(p1,w1),(p2,w2)] 2)) w1))=some (strsAV (List.map (fun x=>getS x (lawScN [(p0,w0),(p1,w1),(p2,w2)] 2)) w1))) (.c ((lg_len hF (fw.ws (p1,w1) (by simp))):(lenO (AObj.txs F)+lenO (AObj.txs (List.map (fun x=>getS x (lawScN [(p0,w0),(p1,w1),(p2,w2)] 2)) w1))).ble 1000000=true) .n)))))
theorem lg_t2 {p0 p1 p2:SS} {w0 w1 w2:List Str} {GB:List Str} {F:List Str} {many:Nat} (fw:FewPW [(p0,w0),(p1,w1),(p2,w2)]) (h:∀ x∈w2,(look x (lawScN [(p0,w0),(p1,w1),(p2,w2)] 3)).isSome=true) (hF:F.length≤100):SsR g (n+4) (fun i=>i<8) (scF 718) (setL "k" (.nat 2) (Z1w many)) (ssF 718 [1]) (Z3o w0 p0 w1 p1 w2 p2 GB F) .next ((Z1w many)) ((Z41 w0 p0 w1 p1 w2 p2 [.txs GB,.txs (F++List.map (fun x=>getS x (lawScN [(p0,w0),(p1,w1),(p2,w2)] 3)) w2)])):=
 .gz G [.call Z2w L7 (Z2t w0 p0 w1 p1 w2 p2),.c,.c,.comp w2.length (strsAV (List.map (fun x=>getS x (lawScN [(p0,w0),(p1,w1),(p2,w2)] 3)) w2)) (.txs (List.map (fun x=>getS x (lawScN [(p0,w0),(p1,w1),(p2,w2)] 3)) w2)) (Z1n w0 p0 w1 p1 w2 p2 GB F),.o,.gc Z3x ["rows","many","found"]] (.c (lsc_cr G (n+1) (Nat.le_of_ble_eq_true rfl) fw:CR g (n+3+1) 708 [L0,.nat 3] (Z18 w0 p0 w1 p1 w2 p2) L7 (Z2t w0 p0 w1 p1 w2 p2)) (.c (lg_cb G (n+3) h:CoL g (n+3+1) (cSc (exF 718 [1] 1 [1])) (cGen (exF 718 [1] 1 [1])).target (cElt (exF 718 [1] 1 [1])) (cGen (exF 718 [1] 1 [1])).ifs (Src.lst (.lst (strsAV w2))) (Z1n w0 p0 w1 p1 w2 p2 GB F) w2.length 0 [("scope",L9)] (Z1n w0 p0 w1 p1 w2 p2 GB F) (strsAV (List.map (fun x=>getS x (lawScN [(p0,w0),(p1,w1),(p2,w2)] 3)) w2))) (.c ((Nat.le_trans (fw.ws (p2,w2) (by simp)) (Nat.le_of_ble_eq_true rfl)):w2.length≤1000000) (.c (rfl:some (strsAV (List.map (fun x=>getS x (lawScN [(p0,w0),(p1,w1),(p2,w2)] 3)) w2))=some (strsAV (List.map (fun x=>getS x (lawScN [(p0,w0),(p1,w1),(p2,w2)] 3)) w2))) (.c ((lg_len hF (fw.ws (p2,w2) (by simp))):(lenO (AObj.txs F)+lenO (AObj.txs (List.map (fun x=>getS x (lawScN [(p0,w0),(p1,w1),(p2,w2)] 3)) w2))).ble 1000000=true) .n)))))
omit G in
theorem srcAt_rng {a:Hp} {i j:Nat} (h:i<j):srcAt a i (.rng 0 j)=some (some (.nat i)):=by
 show some (bif Nat.blt i j then some (AV.nat (0+i)) else none)=_
 rw [show Nat.blt i j=true from Nat.ble_eq_true_of_le h,Nat.zero_add];rfl
omit G in
theorem srcAt_rngE {a:Hp} {j:Nat}:srcAt a j (.rng 0 j)=some none:=by
 show some (bif Nat.blt j j then some (AV.nat (0+j)) else none)=_
 rw [show Nat.blt j j=false from Bool.eq_false_iff.mpr fun z=>Nat.lt_irrefl j (Nat.le_of_ble_eq_true z)];rfl
theorem lg_loop {p0 p1 p2:SS} {w0 w1 w2:List Str} {many:Nat} (h0:0<many) (h3:many≤3) (fw:FewPW [(p0,w0),(p1,w1),(p2,w2)]) (hb:∀ i,i<many→∀ x∈pwWs [(p0,w0),(p1,w1),(p2,w2)] i,(look x (lawScN [(p0,w0),(p1,w1),(p2,w2)] (i+1))).isSome=true):
  ∃ kk,LoR g (n+4) (fun i=>i<8) (scF 718) (forT (stF 718 [] 1)) (ssF 718 [1]) (.rng 0 many) .next (Z1w many) (Z41 w0 p0 w1 p1 w2 p2 [.txs (lawGoneN [(p0,w0),(p1,w1),(p2,w2)] 0),.txs (lawGoneN [(p0,w0),(p1,w1),(p2,w2)] many)]) kk 0 (Z1l many) (Z41 w0 p0 w1 p1 w2 p2 [.txs (lawGoneN [(p0,w0),(p1,w1),(p2,w2)] 0)]):=by
 have ln:∀ i,i≤3→(lawGoneN [(p0,w0),(p1,w1),(p2,w2)] i).length≤100:=fun i hi=>Nat.le_trans (lawGoneN_len fw i) (by omega)
 have n1:∀ {i:Nat} {vs a},AsR g (n+4) (scF 718) (forT (stF 718 [] 1)) (.nat i) vs a (setL "k" (.nat i) vs) a:=.nm (k:=Q_ "k") (by kernel_rfl)
 rcases many with _|_|_|_|m
 ·exact absurd h0 (Nat.lt_irrefl _)
 ·exact ⟨_,.turn (srcAt_rng (by decide)) n1 (lg_t0 G n fw (hb 0 (by decide)) (ln 0 (by decide))) (.done rfl srcAt_rngE)⟩
 ·exact ⟨_,.turn (srcAt_rng (by decide)) n1 (lg_t0 G n fw (hb 0 (by decide)) (ln 0 (by decide))) (.turn (srcAt_rng (by decide)) n1 (lg_t1 G n fw (hb 1 (by decide)) (ln 1 (by decide))) (.done rfl srcAt_rngE))⟩
 ·exact ⟨_,.turn (srcAt_rng (by decide)) n1 (lg_t0 G n fw (hb 0 (by decide)) (ln 0 (by decide))) (.turn (srcAt_rng (by decide)) n1 (lg_t1 G n fw (hb 1 (by decide)) (ln 1 (by decide))) (.turn (srcAt_rng (by decide)) n1 (lg_t2 G n fw (hb 2 (by decide)) (ln 2 (by decide))) (.done rfl srcAt_rngE)))⟩
 ·exact absurd h3 (Nat.not_le.mpr (Nat.le_add_left 4 m))
theorem lgone_cr {p0 p1 p2:SS} {w0 w1 w2:List Str} {many:Nat} (h0:0<many) (h3:many≤3) (fw:FewPW [(p0,w0),(p1,w1),(p2,w2)]) (hb:∀ i,i<many→∀ x∈pwWs [(p0,w0),(p1,w1),(p2,w2)] i,(look x (lawScN [(p0,w0),(p1,w1),(p2,w2)] (i+1))).isSome=true):CR g (n+5) 718 [L0,.nat many] (Z18 w0 p0 w1 p1 w2 p2) L7 ((Z2z w0 p0 w1 p1 w2 p2 many)):=
 .gz G [.k 1,.o,.loop .next (Z1w many) (Z41 w0 p0 w1 p1 w2 p2 [.txs [XSLTU],.txs (lawGoneN [(p0,w0),(p1,w1),(p2,w2)] many)]),.s,.gc [0,1,2,3,4,5,6,8] []] (.c (Nat.ble_eq_true_of_le (Nat.le_trans h3 (Nat.le_of_ble_eq_true rfl)):many.ble 1000000=true) (.c (lg_loop G n h0 h3 fw hb) (.c trivial .n)))
end
noncomputable abbrev Z3j:Vars:=[("scope",L8),("gone",L9)]
noncomputable abbrev Z1d (a:List Str) (b:SS) (c:List Str) (d:SS) (e:List Str) (f i j:SS) (k l:List Str):Hp:=(Z41 a b c d e f [.dss i,.dss j,.txs k,.txs l])
noncomputable abbrev Z34 (a:List Str) (b:SS) (c:List Str) (d:SS) (e:List Str) (f i j:SS) (k:List Str):Hp:=(Z41 a b c d e f [.dss i,.dss j,.txs k,.txs (sortS (j.map (·.1)))])
noncomputable abbrev Z0m (a:List Str) (b:SS) (c:List Str) (d:SS) (e:List Str) (f i j:SS):Hp:=(Z41 a b c d e f [.dss i,.prs j])
noncomputable abbrev Z1b (a:List Str) (b:SS) (c:List Str) (d:SS) (e:List Str) (f i:SS):Hp:=(Z41 a b c d e f [.dss i])
noncomputable abbrev Z4k (a b:SS) (c:List Str) (d:SS) (e:List Str) (f:SS) (i:List Str) (j:Nat) (r:Hp):Hp:=.dss a::.dss (lawScN [(b,c),(d,e),(f,i)] j)::.txs (lawGoneN [(b,c),(d,e),(f,i)] j)::r
section
variable {g:Cx} (G:Gl g TT) (n:Nat)
include G
theorem ld_t1 {p0 p1 p2:SS} {w0 w1 w2:List Str} {al sc:SS} {gn ks:List Str} {p q:Str} {b:Bool} (hq:look p sc=some q) (h:inB q gn=b):TvR g (n+1) (cSc (exF 723 [] 1 [])) (setL "prefix" (.str p) Z3j) (cIf (exF 723 [] 1 []) 0) (Z1d w0 p0 w1 p1 w2 p2 al sc gn ks) (!b) (Z1d w0 p0 w1 p1 w2 p2 al sc gn ks):=
 .gz G [.v (.str q),.b (!b)] (.c hq (.c (congrArg not h) .n))
theorem ld_e1 {p0 p1 p2:SS} {w0 w1 w2:List Str} {al sc:SS} {gn ks:List Str} {p q:Str} (h:look p sc=some q):EvR g (n+1) (cSc (exF 723 [] 1 [])) (setL "prefix" (.str p) Z3j) (cElt (exF 723 [] 1 [])) (Z1d w0 p0 w1 p1 w2 p2 al sc gn ks) (.tup [.str p,.str q]) (Z1d w0 p0 w1 p1 w2 p2 al sc gn ks):=
 .gz G [.v (.str q)] (.c h .n)
noncomputable def keptP (sc:SS) (gn:List Str):SS:=((sortS (sc.map (·.1))).filter fun p=>!inB (getS p sc) gn).map fun p=>(p,getS p sc)
theorem ld_c1 {p0 p1 p2:SS} {w0 w1 w2:List Str} {al sc:SS} {gn:List Str}:CoL g (n+1) (cSc (exF 723 [] 1 [])) (cGen (exF 723 [] 1 [])).target (cElt (exF 723 [] 1 [])) (cGen (exF 723 [] 1 [])).ifs (.lst L10) (Z34 w0 p0 w1 p1 w2 p2 al sc gn) (sortS (sc.map (·.1))).length 0 Z3j (Z34 w0 p0 w1 p1 w2 p2 al sc gn) (prsAV (keptP sc gn)):=by
 rw [show prsAV (keptP sc gn)=(sortS (sc.map (·.1))).filterMap fun p=>bif inB (getS p sc) gn then none else some (prAV (p,getS p sc)) by rw [filterMap_bif,keptP,prsAV,List.map_map];rfl]
 refine .same1 (k:=Q_ "prefix") .str _ (by kernel_rfl) (by kernel_rfl) (listOf_of (o:=.txs _) rfl rfl) (fun p hp z=>?_) fun p hp y z=>?_
 ·cases hb:inB (getS p sc) gn with
 |false=>rw [hb] at z;cases z
 |true=>exact oneIf (by kernel_rfl) (ld_t1 G n (keys_mem hp) hb)
 ·cases hb:inB (getS p sc) gn with
 |true=>rw [hb] at z;cases z
 |false=>
   rw [hb] at z
   obtain rfl:=Option.some.inj z
   exact ⟨oneIf (by kernel_rfl) (ld_t1 G n (keys_mem hp) hb),ld_e1 G n (keys_mem hp)⟩
theorem ld_e2 {p0 p1 p2:SS} {w0 w1 w2:List Str} {al kp:SS} {p u:Str}:EvR g (n+1) (cSc (exF 723 [] 2 [])) (setL "uri" (.str u) (setL "prefix" (.str p) [("aliases",L7)])) (cElt (exF 723 [] 2 [])) (Z0m w0 p0 w1 p1 w2 p2 al kp) (.tup [.str p,.str ((look u al).getD u)]) (Z0m w0 p0 w1 p1 w2 p2 al kp):=
 .gz G [] .n
theorem ld_c2 {p0 p1 p2:SS} {w0 w1 w2:List Str} {al kp:SS}:CoL g (n+1) (cSc (exF 723 [] 2 [])) (cGen (exF 723 [] 2 [])).target (cElt (exF 723 [] 2 [])) (cGen (exF 723 [] 2 [])).ifs (.lst L8) (Z0m w0 p0 w1 p1 w2 p2 al kp) kp.length 0 [("aliases",L7)] (Z0m w0 p0 w1 p1 w2 p2 al kp) (prsAV (kp.map fun p=>(p.1,(look p.2 al).getD p.2))):=by
 rw [show prsAV (kp.map fun p=>(p.1,(look p.2 al).getD p.2))=kp.filterMap fun p=>some (prAV (p.1,(look p.2 al).getD p.2)) by rw [filterMap_some (fun _ _=>rfl),prsAV,List.map_map];rfl]
 refine .same2 (k:=Q_ "prefix") (k':=Q_ "uri") _ (by kernel_rfl) (by kernel_rfl) (by kernel_rfl) (listOf_of (o:=.prs _) rfl rfl) (fun p _ e=>nomatch e) fun p _ y e=>?_
 obtain rfl:=Option.some.inj e
 exact ⟨noIfs (by kernel_rfl),ld_e2 G n⟩
theorem ldue_cr {p0 p1 p2:SS} {w0 w1 w2:List Str} {al:SS} {many:Nat} (h0:0<many) (h3:many≤3) (fw:FewPW [(p0,w0),(p1,w1),(p2,w2)]) (hb:∀ i,i<many→∀ x∈pwWs [(p0,w0),(p1,w1),(p2,w2)] i,(look x (lawScN [(p0,w0),(p1,w1),(p2,w2)] (i+1))).isSome=true) (hl:(lawScN [(p0,w0),(p1,w1),(p2,w2)] many).length<60) {kp:SS} (hk:keptP (lawScN [(p0,w0),(p1,w1),(p2,w2)] many) (lawGoneN [(p0,w0),(p1,w1),(p2,w2)] many)=kp):CR g (n+8) 723 [L0,.nat many,L7] (Z1b w0 p0 w1 p1 w2 p2 al) L8 ((Z41 w0 p0 w1 p1 w2 p2 [.dss al,.prs (List.map (fun p=>(p.fst,(look p.snd al).getD p.snd)) kp)])):=
 .gz G [.call Z2w L7 (Z31 w0 p0 w1 p1 w2 p2 many),.call Z2w L7 (Z2z w0 p0 w1 p1 w2 p2 many),.o,.comp (sortS (List.map (fun x=>x.fst) (lawScN [(p0,w0),(p1,w1),(p2,w2)] many))).length (prsAV kp) (.prs kp) (Z41 w0 p0 w1 p1 w2 p2 (Z4k al p0 w0 p1 w1 p2 w2 many [.txs (sortS (List.map (fun x=>x.fst) (lawScN [(p0,w0),(p1,w1),(p2,w2)] many)))])),.gc Z3x ["aliases","kept"],.comp kp.length (prsAV (List.map (fun p=>(p.fst,(look p.snd al).getD p.snd)) kp)) (.prs (List.map (fun p=>(p.fst,(look p.snd al).getD p.snd)) kp)) (Z0m w0 p0 w1 p1 w2 p2 al kp),.gc [0,1,2,3,4,5,6,7,9] []] (.c (lsc_cr G (n+4) h3 fw) (.c (lgone_cr G (n+2) h0 h3 fw hb) (.c ((Nat.ble_eq_true_of_le hl)) (.c ((hk▸ld_c1 G (n+6)):CoL g (n+6+1) (cSc (exF 723 [] 1 [])) (cGen (exF 723 [] 1 [])).target (cElt (exF 723 [] 1 [])) (cGen (exF 723 [] 1 [])).ifs (Src.lst L10) (Z41 w0 p0 w1 p1 w2 p2 (Z4k al p0 w0 p1 w1 p2 w2 many [.txs (sortS (List.map (fun x=>x.fst) (lawScN [(p0,w0),(p1,w1),(p2,w2)] many)))])) (sortS (List.map (fun x=>x.fst) (lawScN [(p0,w0),(p1,w1),(p2,w2)] many))).length 0 Z3j (Z41 w0 p0 w1 p1 w2 p2 (Z4k al p0 w0 p1 w1 p2 w2 many [.txs (sortS (List.map (fun x=>x.fst) (lawScN [(p0,w0),(p1,w1),(p2,w2)] many)))])) (prsAV kp)) (.c ((by rw [(sortS_perm _).length_eq,List.length_map];exact Nat.le_trans (Nat.le_of_lt hl) (Nat.le_of_ble_eq_true rfl)):(sortS (List.map (fun x=>x.fst) (lawScN [(p0,w0),(p1,w1),(p2,w2)] many))).length≤1000000) (.c (rfl:some (prsAV kp)=some (prsAV kp)) (.c (ld_c2 G (n+6):CoL g (n+6+1) (cSc (exF 723 [] 2 [])) (cGen (exF 723 [] 2 [])).target (cElt (exF 723 [] 2 [])) (cGen (exF 723 [] 2 [])).ifs (Src.lst L8) (Z0m w0 p0 w1 p1 w2 p2 al kp) kp.length 0 [("aliases",L7)] (Z0m w0 p0 w1 p1 w2 p2 al kp) (prsAV (List.map (fun p=>(p.fst,(look p.snd al).getD p.snd)) kp))) (.c ((by rw [← hk,keptP,List.length_map];exact Nat.le_trans (List.length_filter_le ..) (by rw [(sortS_perm _).length_eq,List.length_map];exact Nat.le_trans (Nat.le_of_lt hl) (Nat.le_of_ble_eq_true rfl))):kp.length≤1000000) (.c (rfl:some (prsAV (List.map (fun p=>(p.fst,(look p.snd al).getD p.snd)) kp))=some (prsAV (List.map (fun p=>(p.fst,(look p.snd al).getD p.snd)) kp))) .n)))))))))
end
noncomputable def bareA:List Row:=
 [Row.mk "root" "" "" "" "" none [1] [] [],
  Row.mk "element" "xsl:stylesheet" XSLTU "stylesheet" "" (some 0) [] [] []]
noncomputable def bareB (u1:Str):List Row:=
 [Row.mk "root" "" "" "" "" none [1] [] [],
  Row.mk "element" "xsl:stylesheet" XSLTU "stylesheet" "" (some 0) [2] [] [],
  Row.mk "element" (Q_ "e"++Q_ "0") u1 (Q_ "e"++Q_ "0") "" (some 1) [] [] []]
noncomputable abbrev Z1q (a b:Int):Hp:=[.src a b,.list [.str "",.str "u:1",.str "u:2",.str "u:3"]]
noncomputable abbrev Z39:Vars:=[("source",L0),("tree",L1),("rows",L2),("root",.nat 0),("above",.nat 1),("line",L3)]
noncomputable abbrev Z3a:Vars:=[("source",L0),("tree",L1),("rows",L2),("root",.nat 0),("above",.nat 2),("line",L3)]
noncomputable abbrev Z3z:List Str:=["source","tree","rows","root","above","line"]
noncomputable abbrev Z23:Vars:=[("source",L0),("tree",L1),("rows",L2),("root",.nat 0),("above",.nat 3),("line",L3)]
noncomputable abbrev Z4d (a:List Row) (r:Hp):Hp:=.tree a::.list []::.list [.nat 1,.nat 2,.nat 3]::r
noncomputable abbrev Z25 (a b:Int) (c:List Row):Hp:=(.src a b::Z4d c [])
noncomputable abbrev Z05:Vars:=[("source",L0),("tree",L1),("rows",L2),("root",.nat 0),("line",L3),("k",.nat 0),("element",.nat 1),("pairs",L4)]
noncomputable abbrev Z1k:List Str:=["","p","q"]
noncomputable abbrev Z0z (a b:Int) (c:List Row) (d:SS):Hp:=(.src a b::Z4d c [.prs d,.txs Z1k])
noncomputable abbrev Z0v (a b:Int):Hp:=[.src a b,.list [.str "u:1",.str "u:2",.str "u:3"]]
noncomputable abbrev Z13:List Str:=["source","tree","rows","root","line","k","element","pairs"]
noncomputable abbrev Z1t (a b:Int) (c:List Row) (d:SS):Hp:=(.src a b::Z4d c [.prs d])
noncomputable abbrev Z16:Vars:=[("source",L0),("tree",L1),("rows",L2),("root",.nat 0),("line",L3)]
noncomputable abbrev Z46 (a:SS) (r:Hp):Hp:=.list [.nat 1,.nat 2,.nat 3]::.list [L5,.lst []]::.prs a::r
noncomputable abbrev Z2p:List Str:=["source","tree","rows","root","line"]
noncomputable abbrev Z06:Vars:=[("source",L0),("tree",L1),("rows",L2),("root",.nat 0),("line",L3),("k",.nat 1),("element",.nat 2),("pairs",L6)]
noncomputable abbrev Z45 (a:SS) (r:Hp):Hp:=.list [.nat 1,.nat 2,.nat 3]::.list [L5,.lst (strsAV [])]::.prs a::r
noncomputable abbrev Z0w (a b:Int) (c:List Row) (d e:SS):Hp:=(.src a b::.tree c::.list [L4]::Z45 d [.prs e,.txs Z1k])
noncomputable abbrev Z1r (a b:Int):Hp:=[.src a b,.list [.str "u:1",.str "u:2",.str "u:3",.str ""]]
noncomputable abbrev Z1v (a b:Int) (c:List Row) (d e:SS):Hp:=(.src a b::.tree c::.list [L4]::Z45 d [.prs e])
noncomputable abbrev Z07:Vars:=[("source",L0),("tree",L1),("rows",L2),("root",.nat 0),("line",L3),("k",.nat 2),("element",.nat 3),("pairs",L8)]
noncomputable abbrev Z4e (a:SS) (r:Hp):Hp:=.list [L7,.lst (strsAV [])]::.prs a::r
noncomputable abbrev Z0p (a b:Int) (c:List Row) (d e f:SS):Hp:=(.src a b::.tree c::.list [L4,L6]::Z45 d (Z4e e [.prs f,.txs Z1k]))
noncomputable abbrev Z3s:List Nat:=[0,1,2,3,4,5,6,7,8,9]
noncomputable abbrev Z1f (a b:Int) (c:List Row) (d e f:SS):Hp:=(.src a b::.tree c::.list [L4,L6]::Z45 d (Z4e e [.prs f]))
noncomputable abbrev Z3t (a b:Int) (c:List Row) (d e f:SS):Hp:=(.src a b::.tree c::.list [L4,L6]::Z46 d [.list [L7,.lst []],.prs e,.prs f])
noncomputable abbrev Z3i (a b:Int) (c:List Row) (d e f:SS):Hp:=(.src a b::.tree c::.list [L4,L6,L8]::Z46 d [.list [L7,.lst []],.prs e,.list [L9,.lst []],.prs f])
section
variable {g:Cx} (G:Gl g TT) (n:Nat)
include G
theorem oneL0_cr {x y x1 y1:Int} {l:List Str} {d:Nat} {u:Str} (C:CR g (n+2) 686 [L0,.nat l.length] [.src x y] (.nat d) [.src x1 y1]) (hu:l[d]?=some u):CR g (n+3) 693 [L0,L1] [.src x y,.list (strsAV l)] (.str u) ([.src x1 y1,.list (strsAV l)]):=
 .gz G [.call [0] (.nat d) [.src x1 y1],.v (.str u)] (.c ((by rw [show lenO (.list (strsAV l))=l.length from List.length_map ..];exact C):CR g (n+1+1) 686 [L0,.int (Int.ofNat (lenO (.list (strsAV l))))] [.src x y] (.nat d) [.src x1 y1]) (.c ((by rw [strsAV,List.getElem?_map,hu];rfl):(strsAV l)[d]?=some (AV.str u)) .n))
theorem oneL_cr (X:Orc g n) (l:List Str) (h0:0<l.length) (h1:l.length<10) (x y:Int):∃ u x' y',u∈l∧CR g (n+3) 693 [L0,L1] [.src x y,.list (strsAV l)] (.str u) [.src x' y',.list (strsAV l)]:=by
 obtain ⟨d,x',y',hd,C⟩:=X.take n l.length x y h0 h1
 exact ⟨l[d],x',y',List.getElem_mem hd,oneL0_cr G n C (List.getElem?_eq_getElem hd)⟩
theorem sh_e0 {x y x1 y1:Int} {t t1:List Row} {u:Str} (hO:CR g (n+7) 693 [L0,L1] (Z1q x y) (.str u) (Z1q x1 y1)) (hE:CR g (n+7) 440 [L0,.nat 1,.str (Q_ "e"++Q_ "0"),.str u,.str (Q_ "e"++Q_ "0")] [.tree t] (.nat 2) [.tree t1]):SsR g (n+7) (fun i=>i<4) (scF 701) (setL "turn" (.nat 0) Z39) (ssF 701 [4]) [.src x y,.tree t,.list [],.list [.nat 1]] .next (Z3a) ([.src x1 y1,.tree t1,.list [],.list [.nat 1,.nat 2]]):=
 .gz G [.c,.k 0,.c,.call [0,5] (.str u) (Z1q x1 y1),.c,.call [1] (.nat 2) [.tree t1],.gc [0,1,2,3] Z3z,.c] (.c hO (.c hE .n))
theorem sh_e1 {x y x1 y1:Int} {t t1:List Row} {u:Str} (hO:CR g (n+7) 693 [L0,L1] (Z1q x y) (.str u) (Z1q x1 y1)) (hE:CR g (n+7) 440 [L0,.nat 2,.str (Q_ "e"++Q_ "1"),.str u,.str (Q_ "e"++Q_ "1")] [.tree t] (.nat 3) [.tree t1]):SsR g (n+7) (fun i=>i<4) (scF 701) (setL "turn" (.nat 1) Z3a) (ssF 701 [4]) [.src x y,.tree t,.list [],.list [.nat 1,.nat 2]] .next (Z23) ((Z25 x1 y1 t1)):=
 .gz G [.c,.k 0,.c,.call [0,5] (.str u) (Z1q x1 y1),.c,.call [1] (.nat 3) [.tree t1],.gc [0,1,2,3] Z3z,.c] (.c hO (.c hE .n))
theorem sh_skip0 {x y x1 y1:Int} {t:List Row} {ps:SS} {p:Str} (hC:CR g (n+7) 686 [L0,.nat 2] [.src x y] (.nat 1) [.src x1 y1]):SsR g (n+7) (fun i=>i<6) (scF 701) (setL "prefix" (.str p) Z05) (ssF 701 [5,1]) (Z0z x y t ps) .next ([("source",L0),("tree",L1),("rows",L2),("root",.nat 0),("line",L3),("k",.nat 0),("element",.nat 1),("pairs",L4),("prefix",.str p)]) ((Z0z x1 y1 t ps)):=
 .gz G [.call [0] (.nat 1) [.src x1 y1],.c] (.c hC .n)
theorem sh_app00 {x y x1 y1 x2 y2:Int} {t:List Row} {ps:SS} {u:Str} (hC:CR g (n+7) 686 [L0,.nat 2] [.src x y] (.nat 0) [.src x1 y1]) (hO:CR g (n+7) 693 [L0,L1] (Z0v x1 y1) (.str u) (Z0v x2 y2)) (hl:Nat.blt ps.length cap=true):SsR g (n+7) (fun i=>i<6) (scF 701) (setL "prefix" (.str "") Z05) (ssF 701 [5,1]) (Z0z x y t ps) .next (Z05) ((.src x2 y2::Z4d t [.prs (ps++[(Q_ "",u)]),.txs Z1k])):=
 .gz G [.call [0] (.nat 0) [.src x1 y1],.c,.s,.k 0,.c,.c,.call [0,8] (.str u) (Z0v x2 y2),.o,.s,.gc [0,1,2,3,4,5] Z13] (.c hC (.c hO (.c hl .n)))
theorem sh_app01 {x y x1 y1 x2 y2:Int} {t:List Row} {ps:SS} {u:Str} (hC:CR g (n+7) 686 [L0,.nat 2] [.src x y] (.nat 0) [.src x1 y1]) (hO:CR g (n+7) 693 [L0,L1] (Z0v x1 y1) (.str u) (Z0v x2 y2)) (hl:Nat.blt ps.length cap=true):SsR g (n+7) (fun i=>i<6) (scF 701) (setL "prefix" (.str "p") Z05) (ssF 701 [5,1]) (Z0z x y t ps) .next (Z05) ((.src x2 y2::Z4d t [.prs (ps++[(Q_ "p",u)]),.txs Z1k])):=
 .gz G [.call [0] (.nat 0) [.src x1 y1],.c,.s,.k 0,.c,.c,.call [0,8] (.str u) (Z0v x2 y2),.o,.s,.gc [0,1,2,3,4,5] Z13] (.c hC (.c hO (.c hl .n)))
theorem sh_app02 {x y x1 y1 x2 y2:Int} {t:List Row} {ps:SS} {u:Str} (hC:CR g (n+7) 686 [L0,.nat 2] [.src x y] (.nat 0) [.src x1 y1]) (hO:CR g (n+7) 693 [L0,L1] (Z0v x1 y1) (.str u) (Z0v x2 y2)) (hl:Nat.blt ps.length cap=true):SsR g (n+7) (fun i=>i<6) (scF 701) (setL "prefix" (.str "q") Z05) (ssF 701 [5,1]) (Z0z x y t ps) .next (Z05) ((.src x2 y2::Z4d t [.prs (ps++[(Q_ "q",u)]),.txs Z1k])):=
 .gz G [.call [0] (.nat 0) [.src x1 y1],.c,.s,.k 0,.c,.c,.call [0,8] (.str u) (Z0v x2 y2),.o,.s,.gc [0,1,2,3,4,5] Z13] (.c hC (.c hO (.c hl .n)))
theorem sh_ns0 {x y:Int} {t t1:List Row} {ps:SS} {p u:Str} {v:Nat} (hC:CR g (n+7) 482 [L0,.nat 1,.str p,.str u] [.tree t] (.nat v) [.tree t1]):SsR g (n+7) (fun i=>i<5) (scF 701) (setL "uri" (.str u) (setL "prefix" (.str p) Z05)) (ssF 701 [5,2]) (Z1t x y t ps) .next ([("source",L0),("tree",L1),("rows",L2),("root",.nat 0),("line",L3),("k",.nat 0),("element",.nat 1),("pairs",L4),("prefix",.str p),("uri",.str u)]) ((Z1t x y t1 ps)):=
 .gz G [.call [1] (.nat v) [.tree t1]] (.c hC .n)
theorem sh_turn0 {x y x1 y1:Int} {t t1:List Row} {ps:SS} (h1:(∃ kk,LoR g (n+7) (fun i=>i<6) (scF 701) (forT (stF 701 [5] 1)) (ssF 701 [5,1]) (.lst L5) .next Z05 (Z0z x1 y1 t ps) kk 0 Z05 (.src x y::Z4d t [.prs [("xsl",XSLTU)],.txs Z1k]))) (h2:(∃ kk,LoR g (n+7) (fun i=>i<5) (scF 701) (forT (stF 701 [5] 2)) (ssF 701 [5,2]) (.lst L4) .next Z05 (Z1t x1 y1 t1 ps) kk 0 Z05 (Z1t x1 y1 t ps))):SsR g (n+7) (fun i=>i<4) (scF 701) (setL "element" (.nat 1) (setL "k" (.nat 0) Z16)) (ssF 701 [5]) (Z25 x y t) .next (Z16) ((.src x1 y1::.tree t1::.list [L4]::Z46 ps [])):=
 .gz G [.c,.k 3,.k 1,.loop .next Z05 (Z0z x1 y1 t ps),.gc Z1h Z13,.loop .next Z05 (Z1t x1 y1 t1 ps),.k 1,.k 0,.c,.fz 5,.gc [0,1,2,3,6,4] Z2p] (.c h1 (.c (VIn.loc (Nat.le_of_ble_eq_true rfl):SrcIn (fun i=>i<6) (Src.lst L5)) (.c h2 (.c (VIn.loc (Nat.le_of_ble_eq_true rfl):SrcIn (fun i=>i<5) (Src.lst L4)) .n))))
theorem sh_skip1 {x y x1 y1:Int} {t:List Row} {ps:SS} {p:Str} {p0:SS} (hC:CR g (n+7) 686 [L0,.nat 2] [.src x y] (.nat 1) [.src x1 y1]):SsR g (n+7) (fun i=>i<8) (scF 701) (setL "prefix" (.str p) Z06) (ssF 701 [5,1]) (Z0w x y t p0 ps) .next ([("source",L0),("tree",L1),("rows",L2),("root",.nat 0),("line",L3),("k",.nat 1),("element",.nat 2),("pairs",L6),("prefix",.str p)]) ((.src x1 y1::.tree t::.list [L4]::Z46 p0 [.prs ps,.txs Z1k])):=
 .gz G [.call [0] (.nat 1) [.src x1 y1],.c] (.c hC .n)
theorem sh_app10 {x y x1 y1 x2 y2:Int} {t:List Row} {ps:SS} {u:Str} {p0:SS} (hC:CR g (n+7) 686 [L0,.nat 2] [.src x y] (.nat 0) [.src x1 y1]) (hO:CR g (n+7) 693 [L0,L1] (Z1r x1 y1) (.str u) (Z1r x2 y2)) (hl:Nat.blt ps.length cap=true):SsR g (n+7) (fun i=>i<8) (scF 701) (setL "prefix" (.str "") Z06) (ssF 701 [5,1]) (Z0w x y t p0 ps) .next (Z06) ((.src x2 y2::.tree t::.list [L4]::Z46 p0 [.prs (ps++[(Q_ "",u)]),.txs Z1k])):=
 .gz G [.call [0] (.nat 0) [.src x1 y1],.c,.s,.k 0,.c,.c,.call [0,10] (.str u) (Z1r x2 y2),.o,.s,.gc Z3p Z13] (.c hC (.c hO (.c hl .n)))
theorem sh_app11 {x y x1 y1 x2 y2:Int} {t:List Row} {ps:SS} {u:Str} {p0:SS} (hC:CR g (n+7) 686 [L0,.nat 2] [.src x y] (.nat 0) [.src x1 y1]) (hO:CR g (n+7) 693 [L0,L1] (Z0v x1 y1) (.str u) (Z0v x2 y2)) (hl:Nat.blt ps.length cap=true):SsR g (n+7) (fun i=>i<8) (scF 701) (setL "prefix" (.str "p") Z06) (ssF 701 [5,1]) (Z0w x y t p0 ps) .next (Z06) ((.src x2 y2::.tree t::.list [L4]::Z46 p0 [.prs (ps++[(Q_ "p",u)]),.txs Z1k])):=
 .gz G [.call [0] (.nat 0) [.src x1 y1],.c,.s,.k 0,.c,.c,.call [0,10] (.str u) (Z0v x2 y2),.o,.s,.gc Z3p Z13] (.c hC (.c hO (.c hl .n)))
theorem sh_app12 {x y x1 y1 x2 y2:Int} {t:List Row} {ps:SS} {u:Str} {p0:SS} (hC:CR g (n+7) 686 [L0,.nat 2] [.src x y] (.nat 0) [.src x1 y1]) (hO:CR g (n+7) 693 [L0,L1] (Z0v x1 y1) (.str u) (Z0v x2 y2)) (hl:Nat.blt ps.length cap=true):SsR g (n+7) (fun i=>i<8) (scF 701) (setL "prefix" (.str "q") Z06) (ssF 701 [5,1]) (Z0w x y t p0 ps) .next (Z06) ((.src x2 y2::.tree t::.list [L4]::Z46 p0 [.prs (ps++[(Q_ "q",u)]),.txs Z1k])):=
 .gz G [.call [0] (.nat 0) [.src x1 y1],.c,.s,.k 0,.c,.c,.call [0,10] (.str u) (Z0v x2 y2),.o,.s,.gc Z3p Z13] (.c hC (.c hO (.c hl .n)))
theorem sh_ns1 {x y:Int} {t t1:List Row} {ps:SS} {p u:Str} {v:Nat} {p0:SS} (hC:CR g (n+7) 482 [L0,.nat 2,.str p,.str u] [.tree t] (.nat v) [.tree t1]):SsR g (n+7) (fun i=>i<7) (scF 701) (setL "uri" (.str u) (setL "prefix" (.str p) Z06)) (ssF 701 [5,2]) (Z1v x y t p0 ps) .next ([("source",L0),("tree",L1),("rows",L2),("root",.nat 0),("line",L3),("k",.nat 1),("element",.nat 2),("pairs",L6),("prefix",.str p),("uri",.str u)]) ((.src x y::.tree t1::.list [L4]::Z46 p0 [.prs ps])):=
 .gz G [.call [1] (.nat v) [.tree t1]] (.c hC .n)
theorem sh_turn1 {x y x1 y1:Int} {t t1:List Row} {ps:SS} {p0:SS} (h1:(∃ kk,LoR g (n+7) (fun i=>i<8) (scF 701) (forT (stF 701 [5] 1)) (ssF 701 [5,1]) (.lst L7) .next Z06 (Z0w x1 y1 t p0 ps) kk 0 Z06 (.src x y::.tree t::.list [L4]::Z45 p0 [.prs [],.txs Z1k]))) (h2:(∃ kk,LoR g (n+7) (fun i=>i<7) (scF 701) (forT (stF 701 [5] 2)) (ssF 701 [5,2]) (.lst L6) .next Z06 (Z1v x1 y1 t1 p0 ps) kk 0 Z06 (Z1v x1 y1 t p0 ps))):SsR g (n+7) (fun i=>i<4) (scF 701) (setL "element" (.nat 2) (setL "k" (.nat 1) Z16)) (ssF 701 [5]) (.src x y::.tree t::.list [L4]::Z45 p0 []) .next (Z16) ((.src x1 y1::.tree t1::.list [L4,L6]::Z46 p0 [.list [L7,.lst []],.prs ps])):=
 .gz G [.c,.k 3,.k 1,.loop .next Z06 (.src x1 y1::.tree t::.list [L4]::Z46 p0 [.prs ps,.txs Z1k]),.gc Z2w Z13,.loop .next Z06 (.src x1 y1::.tree t1::.list [L4]::Z46 p0 [.prs ps]),.k 1,.k 0,.c,.fz 7,.gc [0,1,2,3,4,5,8,6] Z2p] (.c h1 (.c (VIn.loc (Nat.le_of_ble_eq_true rfl):SrcIn (fun i=>i<8) (Src.lst L7)) (.c h2 (.c (VIn.loc (Nat.le_of_ble_eq_true rfl):SrcIn (fun i=>i<7) (Src.lst L6)) .n))))
theorem sh_skip2 {x y x1 y1:Int} {t:List Row} {ps:SS} {p:Str} {p0 p1:SS} (hC:CR g (n+7) 686 [L0,.nat 2] [.src x y] (.nat 1) [.src x1 y1]):SsR g (n+7) (fun i=>i<10) (scF 701) (setL "prefix" (.str p) Z07) (ssF 701 [5,1]) (Z0p x y t p0 p1 ps) .next ([("source",L0),("tree",L1),("rows",L2),("root",.nat 0),("line",L3),("k",.nat 2),("element",.nat 3),("pairs",L8),("prefix",.str p)]) ((.src x1 y1::.tree t::.list [L4,L6]::Z46 p0 [.list [L7,.lst []],.prs p1,.prs ps,.txs Z1k])):=
 .gz G [.call [0] (.nat 1) [.src x1 y1],.c] (.c hC .n)
theorem sh_app20 {x y x1 y1 x2 y2:Int} {t:List Row} {ps:SS} {u:Str} {p0 p1:SS} (hC:CR g (n+7) 686 [L0,.nat 2] [.src x y] (.nat 0) [.src x1 y1]) (hO:CR g (n+7) 693 [L0,L1] (Z1r x1 y1) (.str u) (Z1r x2 y2)) (hl:Nat.blt ps.length cap=true):SsR g (n+7) (fun i=>i<10) (scF 701) (setL "prefix" (.str "") Z07) (ssF 701 [5,1]) (Z0p x y t p0 p1 ps) .next (Z07) ((.src x2 y2::.tree t::.list [L4,L6]::Z46 p0 [.list [L7,.lst []],.prs p1,.prs (ps++[(Q_ "",u)]),.txs Z1k])):=
 .gz G [.call [0] (.nat 0) [.src x1 y1],.c,.s,.k 0,.c,.c,.call [0,12] (.str u) (Z1r x2 y2),.o,.s,.gc Z3s Z13] (.c hC (.c hO (.c hl .n)))
theorem sh_app21 {x y x1 y1 x2 y2:Int} {t:List Row} {ps:SS} {u:Str} {p0 p1:SS} (hC:CR g (n+7) 686 [L0,.nat 2] [.src x y] (.nat 0) [.src x1 y1]) (hO:CR g (n+7) 693 [L0,L1] (Z0v x1 y1) (.str u) (Z0v x2 y2)) (hl:Nat.blt ps.length cap=true):SsR g (n+7) (fun i=>i<10) (scF 701) (setL "prefix" (.str "p") Z07) (ssF 701 [5,1]) (Z0p x y t p0 p1 ps) .next (Z07) ((.src x2 y2::.tree t::.list [L4,L6]::Z46 p0 [.list [L7,.lst []],.prs p1,.prs (ps++[(Q_ "p",u)]),.txs Z1k])):=
 .gz G [.call [0] (.nat 0) [.src x1 y1],.c,.s,.k 0,.c,.c,.call [0,12] (.str u) (Z0v x2 y2),.o,.s,.gc Z3s Z13] (.c hC (.c hO (.c hl .n)))
theorem sh_app22 {x y x1 y1 x2 y2:Int} {t:List Row} {ps:SS} {u:Str} {p0 p1:SS} (hC:CR g (n+7) 686 [L0,.nat 2] [.src x y] (.nat 0) [.src x1 y1]) (hO:CR g (n+7) 693 [L0,L1] (Z0v x1 y1) (.str u) (Z0v x2 y2)) (hl:Nat.blt ps.length cap=true):SsR g (n+7) (fun i=>i<10) (scF 701) (setL "prefix" (.str "q") Z07) (ssF 701 [5,1]) (Z0p x y t p0 p1 ps) .next (Z07) ((.src x2 y2::.tree t::.list [L4,L6]::Z46 p0 [.list [L7,.lst []],.prs p1,.prs (ps++[(Q_ "q",u)]),.txs Z1k])):=
 .gz G [.call [0] (.nat 0) [.src x1 y1],.c,.s,.k 0,.c,.c,.call [0,12] (.str u) (Z0v x2 y2),.o,.s,.gc Z3s Z13] (.c hC (.c hO (.c hl .n)))
theorem sh_ns2 {x y:Int} {t t1:List Row} {ps:SS} {p u:Str} {v:Nat} {p0 p1:SS} (hC:CR g (n+7) 482 [L0,.nat 3,.str p,.str u] [.tree t] (.nat v) [.tree t1]):SsR g (n+7) (fun i=>i<9) (scF 701) (setL "uri" (.str u) (setL "prefix" (.str p) Z07)) (ssF 701 [5,2]) (Z1f x y t p0 p1 ps) .next ([("source",L0),("tree",L1),("rows",L2),("root",.nat 0),("line",L3),("k",.nat 2),("element",.nat 3),("pairs",L8),("prefix",.str p),("uri",.str u)]) ((Z3t x y t1 p0 p1 ps)):=
 .gz G [.call [1] (.nat v) [.tree t1]] (.c hC .n)
theorem sh_turn2 {x y x1 y1:Int} {t t1:List Row} {ps:SS} {p0 p1:SS} (h1:(∃ kk,LoR g (n+7) (fun i=>i<10) (scF 701) (forT (stF 701 [5] 1)) (ssF 701 [5,1]) (.lst L9) .next Z07 (Z0p x1 y1 t p0 p1 ps) kk 0 Z07 (.src x y::.tree t::.list [L4,L6]::Z45 p0 (Z4e p1 [.prs [],.txs Z1k])))) (h2:(∃ kk,LoR g (n+7) (fun i=>i<9) (scF 701) (forT (stF 701 [5] 2)) (ssF 701 [5,2]) (.lst L8) .next Z07 (Z1f x1 y1 t1 p0 p1 ps) kk 0 Z07 (Z1f x1 y1 t p0 p1 ps))):SsR g (n+7) (fun i=>i<4) (scF 701) (setL "element" (.nat 3) (setL "k" (.nat 2) Z16)) (ssF 701 [5]) (.src x y::.tree t::.list [L4,L6]::Z45 p0 [.list [L7,.lst (strsAV [])],.prs p1]) .next (Z16) ((Z3i x1 y1 t1 p0 p1 ps)):=
 .gz G [.c,.k 3,.k 1,.loop .next Z07 (.src x1 y1::.tree t::.list [L4,L6]::Z46 p0 [.list [L7,.lst []],.prs p1,.prs ps,.txs Z1k]),.gc [0,1,2,3,4,5,6,7,8] Z13,.loop .next Z07 (Z3t x1 y1 t1 p0 p1 ps),.k 1,.k 0,.c,.fz 9,.gc [0,1,2,3,4,5,6,7,10,8] Z2p] (.c h1 (.c (VIn.loc (Nat.le_of_ble_eq_true rfl):SrcIn (fun i=>i<10) (Src.lst L9)) (.c h2 (.c (VIn.loc (Nat.le_of_ble_eq_true rfl):SrcIn (fun i=>i<9) (Src.lst L8)) .n))))
end
noncomputable def nsStep (i:Nat) (t:List Row) (p:Str×Str):List Row:=(t[i]?.map fun w=>(t++[(Row.mk "namespace" p.1 "" p.1 p.2 (some i) [] [] [])]).set i (rowP t.length .nss w)).getD t
theorem nsStep_tv {t:List Row} {es:List El} {i:Nat} {e:El} {p:Str×Str} (tv:TV t es) (he:es[i]?=some e):TV (nsStep (i+1) t p) (es.set i { e with ps:=e.ps++[p] })∧(nsStep (i+1) t p).length=t.length+1:=by
 obtain ⟨w,hw,_⟩:=tv.el i e he
 unfold nsStep
 rw [hw]
 exact ⟨tv.addNs he hw,by show (List.set ..).length=_;rw [List.length_set,List.length_append];rfl⟩
theorem nsFold {t:List Row} {es:List El} {i:Nat} {e:El} {ps:SS} (tv:TV t es) (he:es[i]?=some e) (h0:e.ps=[]):∀ j,j≤ps.length→TV ((ps.take j).foldl (nsStep (i+1)) t) (es.set i { e with ps:=ps.take j })∧((ps.take j).foldl (nsStep (i+1)) t).length=t.length+j:=by
 have hi:=(List.getElem?_eq_some_iff.mp he).1
 intro j
 induction j with
|zero=>
  intro _
  refine ⟨?_,rfl⟩
  have z0:({ e with ps:=[] }:El)=e:=by rw [← h0]
  show TV t (es.set i { e with ps:=[] })
  rw [z0,show es.set i e=es by rw [← (List.getElem?_eq_some_iff.mp he).2];exact List.set_getElem_self hi]
  exact tv
|succ j ih=>
  intro hj
  obtain ⟨h1,h2⟩:=ih (Nat.le_of_succ_le hj)
  have z:=nsStep_tv (p:=ps[j]) h1 (List.getElem?_set_self hi)
  rw [List.take_succ_eq_append_getElem hj,List.foldl_append]
  rw [List.set_set,h2] at z
  exact z
theorem psp_nd {ps:SS} (h:(ps.map (·.1)).Nodup) {j:Nat} (hj:j<ps.length):∀ q∈ps.take j,strB q.1 ps[j].1=false:=fun q hq=>strB_ne fun e=>by
 obtain ⟨i,hi⟩:=List.mem_iff_getElem?.mp hq
 have hij:i<j:=by have:=(List.getElem?_eq_some_iff.mp hi).1;rw [List.length_take] at this;omega
 rw [List.getElem?_take_of_lt hij] at hi
 have n1:(ps.map (·.1))[i]?=some q.1:=by rw [List.getElem?_map,hi];rfl
 have n2:(ps.map (·.1))[j]?=some q.1:=by rw [List.getElem?_map,List.getElem?_eq_getElem hj,e];rfl
 have:=(List.getElem?_inj (List.getElem?_eq_some_iff.mp n1).1 h).mp (n1.trans n2.symm)
 omega
noncomputable abbrev Z4b (r:Hp):Hp:=.list [.nat 1,.nat 2,.nat 3]::.list [L4,L6,L8]::r
noncomputable abbrev Z2y (a b:Int) (c:List Row) (d e f:SS):Hp:=(.src a b::.tree c::Z4b [.list [L5,.lst []],.prs d,.list [L7,.lst []],.prs e,.list [L9,.lst []],.prs f,.list [L1,.nat 0,L2,L3]])
noncomputable abbrev Z2m:Hp:=[.tree [Row.mk "root" "" "" "" "" none [1] [] [],Row.mk "element" "xsl:stylesheet" XSLTU "stylesheet" "" (some 0) [] [] []]]
section
variable {g:Cx} (G:Gl g TT) (n:Nat)
include G
theorem ns_call {t:List Row} {es:List El} {i:Nat} {e:El} {p:Str×Str} (tv:TV t es) (he:es[i]?=some e) (hl:t.length<1000) (hn:∀ q∈e.ps,strB q.1 p.1=false) (hc:e.ps.length<1000):CR g (n+5) 482 [L0,.nat (i+1),.str p.1,.str p.2] [.tree t] (.nat t.length) [.tree (nsStep (i+1) t p)]:=by
 obtain ⟨w,hw,hk,_,_,hns,_⟩:=tv.el i e he
 have cp:∀ {m:Nat},m<1000→Nat.blt m cap=true:=fun h=>Nat.ble_eq_true_of_le (Nat.le_trans h (Nat.le_of_ble_eq_true rfl))
 have z:=addns_cr G n (t:=t) (i:=i+1) (p:=p.1) (u:=p.2) (cp hl) hw (by rw [hk];exact strB_self _) (fun j hj=>by
  obtain ⟨a,ha⟩:=List.getElem?_of_mem hj
  obtain ⟨s,q,h1,h2,h3,_⟩:=hns.2 a j ha
  exact ⟨s,h1,by rw [h3];exact hn q (List.mem_of_getElem? h2)⟩) (cp (hns.1▸hc))
 unfold nsStep
 rw [hw]
 exact z
theorem sh_l2_0 {x y:Int} {t:List Row} {es:List El} {e:El} {ps:SS} (tv:TV t es) (he:es[0]?=some e) (h0:e.ps=[]) (hd:(ps.map (·.1)).Nodup) (hl:ps.length≤10) (ht:t.length≤100):∃ kk,LoR g (n+7) (fun i=>i<5) (scF 701) (forT (stF 701 [5] 2)) (ssF 701 [5,2]) (.lst L4) .next Z05 [.src x y,.tree (ps.foldl (nsStep 1) t),.list [],.list [.nat 1,.nat 2,.nat 3],.prs ps] kk 0 Z05 (Z1t x y t ps):=by
 have L:=LoR.keep (g:=g) (m:=n+7) (D:=fun i=>i<5) (sc:=scF 701) (tgt:=forT (stF 701 [5] 2)) (body:=ssF 701 [5,2]) (src:=.lst L4) Z05 (fun j=>[.src x y,.tree ((ps.take j).foldl (nsStep 1) t),.list [],.list [.nat 1,.nat 2,.nat 3],.prs ps]) (j:=ps.length) (fun j hj=>?_) ?_
 ·rw [List.take_length] at L;exact L
 ·have hx:=List.getElem?_eq_getElem hj
  obtain ⟨z1,z2⟩:=nsFold (ps:=ps) tv he h0 j (Nat.le_of_lt hj)
  refine ⟨.tup [.str ps[j].1,.str ps[j].2],_,setL "uri" (.str ps[j].2) (setL "prefix" (.str ps[j].1) Z05),(srcAt_lst (listOf_of (o:=.prs ps) rfl rfl)).trans (by rw [prsAV,List.getElem?_map,hx];rfl),.nm2 (k:=Q_ "prefix") (k':=Q_ "uri") (by kernel_rfl),?_,(SubV.refl.new (k:=Q_ "prefix") (by kernel_rfl)).new (k:=Q_ "uri") (by kernel_rfl)⟩
  rw [List.take_succ_eq_append_getElem hj,List.foldl_append]
  exact sh_ns0 G n (ns_call G (n+2) (p:=ps[j]) z1 (List.getElem?_set_self (List.getElem?_eq_some_iff.mp he).1) (Nat.lt_of_le_of_lt (Nat.le_of_eq z2) (by omega)) (psp_nd hd hj) (by show (ps.take j).length<_;rw [List.length_take];omega))
 ·exact (srcAt_lst (listOf_of (o:=.prs ps) rfl rfl)).trans (by rw [List.getElem?_eq_none_iff.mpr (by rw [prsAV,List.length_map];exact Nat.le_refl _)])
theorem sh_s00 (X:Orc g n) {t:List Row} {ps:SS} (h:PsP 0 ps) (x y:Int):∃ ps' x' y',PsP 1 ps'∧SsR g (n+7) (fun i=>i<6) (scF 701) (setL "prefix" (.str "") Z05) (ssF 701 [5,1]) (Z0z x y t ps) .next Z05 (.src x' y'::Z4d t [.prs ps',.txs Z1k]):=by
 obtain ⟨d,x1,y1,hd,C⟩:=X.take (n+5) 2 x y (by decide) (by decide)
 rcases lo_two hd with rfl|rfl
 ·obtain ⟨u,x2,y2,hu,C'⟩:=oneL_cr G (n+4) (X.up 4) uris3 (by decide) (by decide) x1 y1
  exact ⟨_,x2,y2,h.snoc rfl (.tail _ hu),sh_app00 G n C C' (Nat.ble_eq_true_of_le (Nat.le_trans (Nat.succ_le_succ h.len) (Nat.le_of_ble_eq_true rfl)))⟩
 ·exact ⟨_,x1,y1,h.up,(sh_skip0 G n C).less (SubV.refl.new (k:=Q_ "prefix") (by kernel_rfl))⟩
theorem sh_s01 (X:Orc g n) {t:List Row} {ps:SS} (h:PsP 1 ps) (x y:Int):∃ ps' x' y',PsP 2 ps'∧SsR g (n+7) (fun i=>i<6) (scF 701) (setL "prefix" (.str "p") Z05) (ssF 701 [5,1]) (Z0z x y t ps) .next Z05 (.src x' y'::Z4d t [.prs ps',.txs Z1k]):=by
 obtain ⟨d,x1,y1,hd,C⟩:=X.take (n+5) 2 x y (by decide) (by decide)
 rcases lo_two hd with rfl|rfl
 ·obtain ⟨u,x2,y2,hu,C'⟩:=oneL_cr G (n+4) (X.up 4) uris3 (by decide) (by decide) x1 y1
  exact ⟨_,x2,y2,h.snoc rfl (.tail _ hu),sh_app01 G n C C' (Nat.ble_eq_true_of_le (Nat.le_trans (Nat.succ_le_succ h.len) (Nat.le_of_ble_eq_true rfl)))⟩
 ·exact ⟨_,x1,y1,h.up,(sh_skip0 G n C).less (SubV.refl.new (k:=Q_ "prefix") (by kernel_rfl))⟩
theorem sh_s02 (X:Orc g n) {t:List Row} {ps:SS} (h:PsP 2 ps) (x y:Int):∃ ps' x' y',PsP 3 ps'∧SsR g (n+7) (fun i=>i<6) (scF 701) (setL "prefix" (.str "q") Z05) (ssF 701 [5,1]) (Z0z x y t ps) .next Z05 (.src x' y'::Z4d t [.prs ps',.txs Z1k]):=by
 obtain ⟨d,x1,y1,hd,C⟩:=X.take (n+5) 2 x y (by decide) (by decide)
 rcases lo_two hd with rfl|rfl
 ·obtain ⟨u,x2,y2,hu,C'⟩:=oneL_cr G (n+4) (X.up 4) uris3 (by decide) (by decide) x1 y1
  exact ⟨_,x2,y2,h.snoc rfl (.tail _ hu),sh_app02 G n C C' (Nat.ble_eq_true_of_le (Nat.le_trans (Nat.succ_le_succ h.len) (Nat.le_of_ble_eq_true rfl)))⟩
 ·exact ⟨_,x1,y1,h.up,(sh_skip0 G n C).less (SubV.refl.new (k:=Q_ "prefix") (by kernel_rfl))⟩
theorem sh_l1_0 (X:Orc g n) {t:List Row} {ps:SS} (h:PsP 0 ps) (x y:Int):∃ ps' x' y',PsP 3 ps'∧∃ kk,LoR g (n+7) (fun i=>i<6) (scF 701) (forT (stF 701 [5] 1)) (ssF 701 [5,1]) (.lst L5) .next Z05 (.src x' y'::Z4d t [.prs ps',.txs Z1k]) kk 0 Z05 (Z0z x y t ps):=by
 obtain ⟨a1,x1,y1,g1,s1⟩:=sh_s00 G n X h x y
 obtain ⟨a2,x2,y2,g2,s2⟩:=sh_s01 G n X g1 x1 y1
 obtain ⟨a3,x3,y3,g3,s3⟩:=sh_s02 G n X g2 x2 y2
 exact ⟨a3,x3,y3,g3,_,.turn ((srcAt_lst (listOf_of (o:=.txs _) rfl rfl)).trans rfl) (.nm (k:=Q_ "prefix") (by kernel_rfl)) s1 (.turn ((srcAt_lst (listOf_of (o:=.txs _) rfl rfl)).trans rfl) (.nm (k:=Q_ "prefix") (by kernel_rfl)) s2 (.turn ((srcAt_lst (listOf_of (o:=.txs _) rfl rfl)).trans rfl) (.nm (k:=Q_ "prefix") (by kernel_rfl)) s3 (.done rfl ((srcAt_lst (listOf_of (o:=.txs _) rfl rfl)).trans rfl))))⟩
theorem sh_l2_1 {x y:Int} {t:List Row} {es:List El} {e:El} {ps:SS} {p0:SS} (tv:TV t es) (he:es[1]?=some e) (h0:e.ps=[]) (hd:(ps.map (·.1)).Nodup) (hl:ps.length≤10) (ht:t.length≤100):∃ kk,LoR g (n+7) (fun i=>i<7) (scF 701) (forT (stF 701 [5] 2)) (ssF 701 [5,2]) (.lst L6) .next Z06 (.src x y::.tree (ps.foldl (nsStep 2) t)::.list [L4]::Z45 p0 [.prs ps]) kk 0 Z06 (Z1v x y t p0 ps):=by
 have L:=LoR.keep (g:=g) (m:=n+7) (D:=fun i=>i<7) (sc:=scF 701) (tgt:=forT (stF 701 [5] 2)) (body:=ssF 701 [5,2]) (src:=.lst L6) Z06 (fun j=>(.src x y::.tree ((ps.take j).foldl (nsStep 2) t)::.list [L4]::Z45 p0 [.prs ps])) (j:=ps.length) (fun j hj=>?_) ?_
 ·rw [List.take_length] at L;exact L
 ·have hx:=List.getElem?_eq_getElem hj
  obtain ⟨z1,z2⟩:=nsFold (ps:=ps) tv he h0 j (Nat.le_of_lt hj)
  refine ⟨.tup [.str ps[j].1,.str ps[j].2],_,setL "uri" (.str ps[j].2) (setL "prefix" (.str ps[j].1) Z06),(srcAt_lst (listOf_of (o:=.prs ps) rfl rfl)).trans (by rw [prsAV,List.getElem?_map,hx];rfl),.nm2 (k:=Q_ "prefix") (k':=Q_ "uri") (by kernel_rfl),?_,(SubV.refl.new (k:=Q_ "prefix") (by kernel_rfl)).new (k:=Q_ "uri") (by kernel_rfl)⟩
  rw [List.take_succ_eq_append_getElem hj,List.foldl_append]
  exact sh_ns1 G n (ns_call G (n+2) (p:=ps[j]) z1 (List.getElem?_set_self (List.getElem?_eq_some_iff.mp he).1) (Nat.lt_of_le_of_lt (Nat.le_of_eq z2) (by omega)) (psp_nd hd hj) (by show (ps.take j).length<_;rw [List.length_take];omega))
 ·exact (srcAt_lst (listOf_of (o:=.prs ps) rfl rfl)).trans (by rw [List.getElem?_eq_none_iff.mpr (by rw [prsAV,List.length_map];exact Nat.le_refl _)])
theorem sh_s10 (X:Orc g n) {t:List Row} {ps:SS} {p0:SS} (h:PsP 0 ps) (x y:Int):∃ ps' x' y',PsP 1 ps'∧SsR g (n+7) (fun i=>i<8) (scF 701) (setL "prefix" (.str "") Z06) (ssF 701 [5,1]) (Z0w x y t p0 ps) .next Z06 (.src x' y'::.tree t::.list [L4]::Z45 p0 [.prs ps',.txs Z1k]):=by
 obtain ⟨d,x1,y1,hd,C⟩:=X.take (n+5) 2 x y (by decide) (by decide)
 rcases lo_two hd with rfl|rfl
 ·obtain ⟨u,x2,y2,hu,C'⟩:=oneL_cr G (n+4) (X.up 4) (uris3++[Q_ ""]) (by decide) (by decide) x1 y1
  exact ⟨_,x2,y2,h.snoc rfl ((List.mem_append.mp hu).elim (.tail _) fun z=>List.mem_singleton.mp z▸.head _),sh_app10 G n C C' (Nat.ble_eq_true_of_le (Nat.le_trans (Nat.succ_le_succ h.len) (Nat.le_of_ble_eq_true rfl)))⟩
 ·exact ⟨_,x1,y1,h.up,(sh_skip1 G n C).less (SubV.refl.new (k:=Q_ "prefix") (by kernel_rfl))⟩
theorem sh_s11 (X:Orc g n) {t:List Row} {ps:SS} {p0:SS} (h:PsP 1 ps) (x y:Int):∃ ps' x' y',PsP 2 ps'∧SsR g (n+7) (fun i=>i<8) (scF 701) (setL "prefix" (.str "p") Z06) (ssF 701 [5,1]) (Z0w x y t p0 ps) .next Z06 (.src x' y'::.tree t::.list [L4]::Z45 p0 [.prs ps',.txs Z1k]):=by
 obtain ⟨d,x1,y1,hd,C⟩:=X.take (n+5) 2 x y (by decide) (by decide)
 rcases lo_two hd with rfl|rfl
 ·obtain ⟨u,x2,y2,hu,C'⟩:=oneL_cr G (n+4) (X.up 4) uris3 (by decide) (by decide) x1 y1
  exact ⟨_,x2,y2,h.snoc rfl (.tail _ hu),sh_app11 G n C C' (Nat.ble_eq_true_of_le (Nat.le_trans (Nat.succ_le_succ h.len) (Nat.le_of_ble_eq_true rfl)))⟩
 ·exact ⟨_,x1,y1,h.up,(sh_skip1 G n C).less (SubV.refl.new (k:=Q_ "prefix") (by kernel_rfl))⟩
theorem sh_s12 (X:Orc g n) {t:List Row} {ps:SS} {p0:SS} (h:PsP 2 ps) (x y:Int):∃ ps' x' y',PsP 3 ps'∧SsR g (n+7) (fun i=>i<8) (scF 701) (setL "prefix" (.str "q") Z06) (ssF 701 [5,1]) (Z0w x y t p0 ps) .next Z06 (.src x' y'::.tree t::.list [L4]::Z45 p0 [.prs ps',.txs Z1k]):=by
 obtain ⟨d,x1,y1,hd,C⟩:=X.take (n+5) 2 x y (by decide) (by decide)
 rcases lo_two hd with rfl|rfl
 ·obtain ⟨u,x2,y2,hu,C'⟩:=oneL_cr G (n+4) (X.up 4) uris3 (by decide) (by decide) x1 y1
  exact ⟨_,x2,y2,h.snoc rfl (.tail _ hu),sh_app12 G n C C' (Nat.ble_eq_true_of_le (Nat.le_trans (Nat.succ_le_succ h.len) (Nat.le_of_ble_eq_true rfl)))⟩
 ·exact ⟨_,x1,y1,h.up,(sh_skip1 G n C).less (SubV.refl.new (k:=Q_ "prefix") (by kernel_rfl))⟩
theorem sh_l1_1 (X:Orc g n) {t:List Row} {ps:SS} {p0:SS} (h:PsP 0 ps) (x y:Int):∃ ps' x' y',PsP 3 ps'∧∃ kk,LoR g (n+7) (fun i=>i<8) (scF 701) (forT (stF 701 [5] 1)) (ssF 701 [5,1]) (.lst L7) .next Z06 (.src x' y'::.tree t::.list [L4]::Z45 p0 [.prs ps',.txs Z1k]) kk 0 Z06 (Z0w x y t p0 ps):=by
 obtain ⟨a1,x1,y1,g1,s1⟩:=sh_s10 G n X h x y
 obtain ⟨a2,x2,y2,g2,s2⟩:=sh_s11 G n X g1 x1 y1
 obtain ⟨a3,x3,y3,g3,s3⟩:=sh_s12 G n X g2 x2 y2
 exact ⟨a3,x3,y3,g3,_,.turn ((srcAt_lst (listOf_of (o:=.txs _) rfl rfl)).trans rfl) (.nm (k:=Q_ "prefix") (by kernel_rfl)) s1 (.turn ((srcAt_lst (listOf_of (o:=.txs _) rfl rfl)).trans rfl) (.nm (k:=Q_ "prefix") (by kernel_rfl)) s2 (.turn ((srcAt_lst (listOf_of (o:=.txs _) rfl rfl)).trans rfl) (.nm (k:=Q_ "prefix") (by kernel_rfl)) s3 (.done rfl ((srcAt_lst (listOf_of (o:=.txs _) rfl rfl)).trans rfl))))⟩
theorem sh_l2_2 {x y:Int} {t:List Row} {es:List El} {e:El} {ps:SS} {p0 p1:SS} (tv:TV t es) (he:es[2]?=some e) (h0:e.ps=[]) (hd:(ps.map (·.1)).Nodup) (hl:ps.length≤10) (ht:t.length≤100):∃ kk,LoR g (n+7) (fun i=>i<9) (scF 701) (forT (stF 701 [5] 2)) (ssF 701 [5,2]) (.lst L8) .next Z07 (.src x y::.tree (ps.foldl (nsStep 3) t)::.list [L4,L6]::Z45 p0 (Z4e p1 [.prs ps])) kk 0 Z07 (Z1f x y t p0 p1 ps):=by
 have L:=LoR.keep (g:=g) (m:=n+7) (D:=fun i=>i<9) (sc:=scF 701) (tgt:=forT (stF 701 [5] 2)) (body:=ssF 701 [5,2]) (src:=.lst L8) Z07 (fun j=>(.src x y::.tree ((ps.take j).foldl (nsStep 3) t)::.list [L4,L6]::Z45 p0 (Z4e p1 [.prs ps]))) (j:=ps.length) (fun j hj=>?_) ?_
 ·rw [List.take_length] at L;exact L
 ·have hx:=List.getElem?_eq_getElem hj
  obtain ⟨z1,z2⟩:=nsFold (ps:=ps) tv he h0 j (Nat.le_of_lt hj)
  refine ⟨.tup [.str ps[j].1,.str ps[j].2],_,setL "uri" (.str ps[j].2) (setL "prefix" (.str ps[j].1) Z07),(srcAt_lst (listOf_of (o:=.prs ps) rfl rfl)).trans (by rw [prsAV,List.getElem?_map,hx];rfl),.nm2 (k:=Q_ "prefix") (k':=Q_ "uri") (by kernel_rfl),?_,(SubV.refl.new (k:=Q_ "prefix") (by kernel_rfl)).new (k:=Q_ "uri") (by kernel_rfl)⟩
  rw [List.take_succ_eq_append_getElem hj,List.foldl_append]
  exact sh_ns2 G n (ns_call G (n+2) (p:=ps[j]) z1 (List.getElem?_set_self (List.getElem?_eq_some_iff.mp he).1) (Nat.lt_of_le_of_lt (Nat.le_of_eq z2) (by omega)) (psp_nd hd hj) (by show (ps.take j).length<_;rw [List.length_take];omega))
 ·exact (srcAt_lst (listOf_of (o:=.prs ps) rfl rfl)).trans (by rw [List.getElem?_eq_none_iff.mpr (by rw [prsAV,List.length_map];exact Nat.le_refl _)])
theorem sh_s20 (X:Orc g n) {t:List Row} {ps:SS} {p0 p1:SS} (h:PsP 0 ps) (x y:Int):∃ ps' x' y',PsP 1 ps'∧SsR g (n+7) (fun i=>i<10) (scF 701) (setL "prefix" (.str "") Z07) (ssF 701 [5,1]) (Z0p x y t p0 p1 ps) .next Z07 (.src x' y'::.tree t::.list [L4,L6]::Z45 p0 (Z4e p1 [.prs ps',.txs Z1k])):=by
 obtain ⟨d,x1,y1,hd,C⟩:=X.take (n+5) 2 x y (by decide) (by decide)
 rcases lo_two hd with rfl|rfl
 ·obtain ⟨u,x2,y2,hu,C'⟩:=oneL_cr G (n+4) (X.up 4) (uris3++[Q_ ""]) (by decide) (by decide) x1 y1
  exact ⟨_,x2,y2,h.snoc rfl ((List.mem_append.mp hu).elim (.tail _) fun z=>List.mem_singleton.mp z▸.head _),sh_app20 G n C C' (Nat.ble_eq_true_of_le (Nat.le_trans (Nat.succ_le_succ h.len) (Nat.le_of_ble_eq_true rfl)))⟩
 ·exact ⟨_,x1,y1,h.up,(sh_skip2 G n C).less (SubV.refl.new (k:=Q_ "prefix") (by kernel_rfl))⟩
theorem sh_s21 (X:Orc g n) {t:List Row} {ps:SS} {p0 p1:SS} (h:PsP 1 ps) (x y:Int):∃ ps' x' y',PsP 2 ps'∧SsR g (n+7) (fun i=>i<10) (scF 701) (setL "prefix" (.str "p") Z07) (ssF 701 [5,1]) (Z0p x y t p0 p1 ps) .next Z07 (.src x' y'::.tree t::.list [L4,L6]::Z45 p0 (Z4e p1 [.prs ps',.txs Z1k])):=by
 obtain ⟨d,x1,y1,hd,C⟩:=X.take (n+5) 2 x y (by decide) (by decide)
 rcases lo_two hd with rfl|rfl
 ·obtain ⟨u,x2,y2,hu,C'⟩:=oneL_cr G (n+4) (X.up 4) uris3 (by decide) (by decide) x1 y1
  exact ⟨_,x2,y2,h.snoc rfl (.tail _ hu),sh_app21 G n C C' (Nat.ble_eq_true_of_le (Nat.le_trans (Nat.succ_le_succ h.len) (Nat.le_of_ble_eq_true rfl)))⟩
 ·exact ⟨_,x1,y1,h.up,(sh_skip2 G n C).less (SubV.refl.new (k:=Q_ "prefix") (by kernel_rfl))⟩
theorem sh_s22 (X:Orc g n) {t:List Row} {ps:SS} {p0 p1:SS} (h:PsP 2 ps) (x y:Int):∃ ps' x' y',PsP 3 ps'∧SsR g (n+7) (fun i=>i<10) (scF 701) (setL "prefix" (.str "q") Z07) (ssF 701 [5,1]) (Z0p x y t p0 p1 ps) .next Z07 (.src x' y'::.tree t::.list [L4,L6]::Z45 p0 (Z4e p1 [.prs ps',.txs Z1k])):=by
 obtain ⟨d,x1,y1,hd,C⟩:=X.take (n+5) 2 x y (by decide) (by decide)
 rcases lo_two hd with rfl|rfl
 ·obtain ⟨u,x2,y2,hu,C'⟩:=oneL_cr G (n+4) (X.up 4) uris3 (by decide) (by decide) x1 y1
  exact ⟨_,x2,y2,h.snoc rfl (.tail _ hu),sh_app22 G n C C' (Nat.ble_eq_true_of_le (Nat.le_trans (Nat.succ_le_succ h.len) (Nat.le_of_ble_eq_true rfl)))⟩
 ·exact ⟨_,x1,y1,h.up,(sh_skip2 G n C).less (SubV.refl.new (k:=Q_ "prefix") (by kernel_rfl))⟩
theorem sh_l1_2 (X:Orc g n) {t:List Row} {ps:SS} {p0 p1:SS} (h:PsP 0 ps) (x y:Int):∃ ps' x' y',PsP 3 ps'∧∃ kk,LoR g (n+7) (fun i=>i<10) (scF 701) (forT (stF 701 [5] 1)) (ssF 701 [5,1]) (.lst L9) .next Z07 (.src x' y'::.tree t::.list [L4,L6]::Z45 p0 (Z4e p1 [.prs ps',.txs Z1k])) kk 0 Z07 (Z0p x y t p0 p1 ps):=by
 obtain ⟨a1,x1,y1,g1,s1⟩:=sh_s20 G n X h x y
 obtain ⟨a2,x2,y2,g2,s2⟩:=sh_s21 G n X g1 x1 y1
 obtain ⟨a3,x3,y3,g3,s3⟩:=sh_s22 G n X g2 x2 y2
 exact ⟨a3,x3,y3,g3,_,.turn ((srcAt_lst (listOf_of (o:=.txs _) rfl rfl)).trans rfl) (.nm (k:=Q_ "prefix") (by kernel_rfl)) s1 (.turn ((srcAt_lst (listOf_of (o:=.txs _) rfl rfl)).trans rfl) (.nm (k:=Q_ "prefix") (by kernel_rfl)) s2 (.turn ((srcAt_lst (listOf_of (o:=.txs _) rfl rfl)).trans rfl) (.nm (k:=Q_ "prefix") (by kernel_rfl)) s3 (.done rfl ((srcAt_lst (listOf_of (o:=.txs _) rfl rfl)).trans rfl))))⟩
theorem sheet0_cr {x y x1 y1 x2 y2:Int} {t1 t2:List Row} {p0 p1 p2:SS} (h4:∃ kk,LoR g (n+7) (fun i=>i<4) (scF 701) (forT (stF 701 [] 4)) (ssF 701 [4]) (.rng 0 2) .next Z23 (Z25 x1 y1 t1) kk 0 Z39 [.src x y,.tree bareA,.list [],.list [.nat 1]]) (h5:∃ kk,LoR g (n+7) (fun i=>i<4) (scF 701) (forT (stF 701 [] 5)) (ssF 701 [5]) (.enum L3) .next Z16 (.src x2 y2::.tree t2::.list [L4,L6,L8]::Z45 p0 (Z4e p1 [.list [L9,.lst (strsAV [])],.prs p2])) kk 0 Z16 (Z25 x1 y1 t1)):CR g (n+8) 701 [L0] [.src x y] L10 ((Z2y x2 y2 t2 p0 p1 p2)):=
 .gz G [.call [1] (.none) Z33,.k 1,.k 0,.gc [0,1,3] ["source","tree","rows"],.call [1] (.nat 0) Z22,.call [1] (.nat 1) Z2m,.k 0,.c,.loop .next Z23 (Z25 x1 y1 t1),.gc [0,1,2,3] Z2p,.loop .next Z16 (Z3i x2 y2 t2 p0 p1 p2),.s,.k 0,.gc [0,1,3,2,4,5,6,7,8,9,10] []] (.c (tinit_cr G (n+4)) (.c (⟨rfl,rfl⟩:some (AObj.inst 576 [(Q_ "rows",L2)])=some (AObj.inst 576 [(Q_ "rows",L2)])∧some (AObj.list [])=some (AObj.list [])) (.c (root_cr G (n+2) (t:=[]) rfl) (.c (el_cr G (n+1) (t:=[(Row.mk "root" "" "" "" "" none [] [] [])]) (p:=0) rfl rfl rfl rfl:CR g (n+6+1) 440 [L0,.nat 0,.str "xsl:stylesheet",.str "http://www.w3.org/1999/XSL/Transform",.str "stylesheet"] Z22 (.nat 1) Z2m) (.c h4 (.c trivial (.c h5 (.c (VIn.loc (Nat.le_of_ble_eq_true rfl):SrcIn (fun i=>i<4) (Src.enum L3)) .n))))))))
omit G n in
theorem sh_z {a b c d e f:Nat} (h0:a≤4) (h1:b≤4) (h2:c≤4) (k1:d=4+a) (k2:e=d+b) (k3:f=e+c):d≤100∧e≤100∧f≤20:=by
 have q1:d≤8:=by rw [k1];exact Nat.add_le_add_left h0 4
 have q2:e≤12:=by rw [k2];exact Nat.add_le_add q1 h1
 have q3:f≤16:=by rw [k3];exact Nat.add_le_add q2 h2
 exact ⟨Nat.le_trans q1 (by decide),Nat.le_trans q2 (by decide),Nat.le_trans q3 (by decide)⟩
theorem sheet_cr (X:Orc g n) (x y:Int):∃ (u1 u2:Str) (p0 p1 p2:SS) (R:List Row) (x' y':Int),u1∈Q_ ""::uris3∧u2∈Q_ ""::uris3∧TV R [⟨XSLTU,p0,[]⟩,⟨u1,p1,[]⟩,⟨u2,p2,[]⟩]∧R.length≤20∧PsP 3 p0∧PsP 3 p1∧PsP 3 p2 ∧
  CR g (n+8) 701 [L0] [.src x y] L10 (.src x' y'::.tree R::Z4b [.list [L5,.lst (strsAV [])],.prs p0,.list [L7,.lst (strsAV [])],.prs p1,.list [L9,.lst (strsAV [])],.prs p2,.list [L1,.nat 0,L2,L3]]):=by
 obtain ⟨u1,x1,y1,hu1,C1⟩:=oneL_cr G (n+4) (X.up 4) (""::uris3) (by decide) (by decide) x y
 obtain ⟨u2,x2,y2,hu2,C2⟩:=oneL_cr G (n+4) (X.up 4) (""::uris3) (by decide) (by decide) x1 y1
 have n4:∀ {i:Nat} {vs a},AsR g (n+7) (scF 701) (forT (stF 701 [] 4)) (.nat i) vs a (setL "turn" (.nat i) vs) a:=.nm (k:=Q_ "turn") (by kernel_rfl)
 have n5:∀ {i j:Nat} {vs a},AsR g (n+7) (scF 701) (forT (stF 701 [] 5)) (.tup [.nat i,.nat j]) vs a (setL "element" (.nat j) (setL "k" (.nat i) vs)) a:=.nm2 (k:=Q_ "k") (k':=Q_ "element") (by kernel_rfl)
 have h4:=LoR.turn (fl:=.next) (srcAt_rng (by decide)) n4 (sh_e0 G n C1 (el_cr G (n+1) (t:=bareA) (p:=1) rfl rfl rfl rfl)) (.turn (srcAt_rng (by decide)) n4 (sh_e1 G n C2 (el_cr G (n+1) (t:=bareB u1) (p:=2) rfl rfl rfl rfl)) (.done rfl srcAt_rngE))
 obtain ⟨p0,x3,y3,g0,l0⟩:=sh_l1_0 G n X (t:=bareR u1 u2) (ps:=[("xsl",XSLTU)]) ⟨List.nodup_cons.mpr ⟨(fun h=>nomatch h),List.nodup_nil⟩,fun x hx=>.inl (List.mem_singleton.mp hx▸⟨rfl,rfl⟩),Nat.le_refl _⟩ x2 y2
 have e0:PsP 0 ([]:SS):=⟨List.nodup_nil,(fun _ h=>nomatch h),Nat.zero_le _⟩
 have tv0:=bare_tv u1 u2
 have tv1:=nsFold (ps:=p0) (i:=0) tv0 rfl rfl p0.length (Nat.le_refl _)
 rw [List.take_length] at tv1
 obtain ⟨p1,x4,y4,g1,l1⟩:=sh_l1_1 G n X (t:=p0.foldl (nsStep 1) (bareR u1 u2)) (p0:=p0) e0 x3 y3
 have tv2:=nsFold (ps:=p1) (i:=1) tv1.1 rfl rfl p1.length (Nat.le_refl _)
 rw [List.take_length] at tv2
 obtain ⟨p2,x5,y5,g2,l2⟩:=sh_l1_2 G n X (t:=p1.foldl (nsStep 2) (p0.foldl (nsStep 1) (bareR u1 u2))) (p0:=p0) (p1:=p1) e0 x4 y4
 have tv3:=nsFold (ps:=p2) (i:=2) tv2.1 rfl rfl p2.length (Nat.le_refl _)
 rw [List.take_length] at tv3
 have q0:=g0.len
 have q1:=g1.len
 have q2:=g2.len
 obtain ⟨z1,z2,z3⟩:=sh_z q0 q1 q2 tv1.2 tv2.2 tv3.2
 have h5:=LoR.turn (fl:=.next) (i:=0) (src:=.enum L3) rfl n5 (sh_turn0 G n l0 (sh_l2_0 G n tv0 rfl rfl g0.nd (Nat.le_trans q0 (by decide)) (Nat.le_of_ble_eq_true rfl))) (.turn rfl n5 (sh_turn1 G n l1 (sh_l2_1 G n tv1.1 rfl rfl g1.nd (Nat.le_trans q1 (by decide)) z1)) (.turn rfl n5 (sh_turn2 G n l2 (sh_l2_2 G n tv2.1 rfl rfl g2.nd (Nat.le_trans q2 (by decide)) z2)) (.done rfl rfl)))
 exact ⟨u1,u2,p0,p1,p2,_,x5,y5,hu1,hu2,tv3.1,z3,g0,g1,g2,sheet0_cr G n ⟨_,h4⟩ ⟨_,h5⟩⟩
end
theorem SR.go1 {g:Cx} {T:Tabs} {m d:Nat} {sc:Scope} {vs vs':Vars} {st:Stmt} {a a':Hp} {f:Fl} (G:Gl g T) (k:Nat) (hs:Hs) (h:stepS1 g T m sc d (Mine.go g T m sc d k) vs st a hs fun f' vs'' a'' _=>f'=f∧vs''=vs'∧a''=a'):SR g (m+1) (fun i=>i<d) sc vs st a f vs' a':=
 stepS1_i (go_snd G k) G (fun f' vs'' a'' hs' H z=>by obtain ⟨rfl,rfl,rfl⟩:=z;exact H) h
theorem SR.if1 {g:Cx} {n:Nat} {D:Nat→Prop} {sc:Scope} {vs vs':Vars} {st:Stmt} {a a₁ a':Hp} {f:Fl} (h:isIf st=true) (H:TvR g n sc vs (exS st) a true a₁) (K:SsR g n D sc vs (blk st) a₁ f vs' a'):SR g n D sc vs st a f vs' a':=by
 obtain ⟨⟨q,p,rfl⟩,_⟩:=Option.isSome_iff_exists.mp h
 exact .if H K
theorem SR.if0 {g:Cx} {n:Nat} {D:Nat→Prop} {sc:Scope} {vs vs':Vars} {st:Stmt} {a a₁ a':Hp} {f:Fl} (h:isIf st=true) (H:TvR g n sc vs (exS st) a false a₁) (K:SsR g n D sc vs (elsS st) a₁ f vs' a'):SR g n D sc vs st a f vs' a':=by
 obtain ⟨⟨q,p,rfl⟩,_⟩:=Option.isSome_iff_exists.mp h
 exact .if H K
noncomputable abbrev Z2i (a:List Str):Vars:=[("source",L0),("sheet",L10),("tree",L1),("root",.nat 0),("line",L2),("rows",L3),("k",.nat 0),("some",L11),("words",.lst (strsAV a))]
noncomputable abbrev Z42 (a:List Str) (b:SS) (c:List Str) (d:SS) (e:List Str) (f:SS) (r:Hp):Hp:=.list [.nat 1,.nat 2,.nat 3]::.list [L4,L6,L8]::.list [L5,.lst (strsAV a)]::.prs b::.list [L7,.lst (strsAV c)]::.prs d::.list [L9,.lst (strsAV e)]::.prs f::.list [L1,.nat 0,L2,L3]::r
noncomputable abbrev Z0k (a b:Int) (c:List Row) (d:List Str) (e:SS) (f:List Str) (i:SS) (j:List Str) (k:SS) (l:List Str):Hp:=(.src a b::.tree c::Z42 d e f i j k [.txs l,.dead])
noncomputable abbrev Z2j (a:List Str):Vars:=[("source",L0),("sheet",L10),("tree",L1),("root",.nat 0),("line",L2),("rows",L3),("k",.nat 1),("some",L11),("words",.lst (strsAV a))]
noncomputable abbrev Z2k (a:List Str):Vars:=[("source",L0),("sheet",L10),("tree",L1),("root",.nat 0),("line",L2),("rows",L3),("k",.nat 2),("some",L11),("words",.lst (strsAV a))]
noncomputable abbrev Z03 (a b:Int) (c:List Row) (d:List Str) (e:SS) (f:List Str) (i:SS) (j:List Str) (k:SS) (l:List Str):Hp:=(.src a b::.tree c::Z42 d e f i j k [.txs l])
noncomputable abbrev Z0c (a:Nat) (b:List Str):Vars:=[("source",L0),("sheet",L10),("tree",L1),("root",.nat 0),("line",L2),("rows",L3),("k",.nat a),("some",L11),("words",.lst (strsAV b)),("texts",L12),("names",L13)]
noncomputable abbrev Z0i (a b:Int) (c:List Row) (d:List Str) (e:SS) (f:List Str) (i:SS) (j:List Str) (k:SS) (l m:List Str):Hp:=(.src a b::.tree c::Z42 d e f i j k [.txs l,.txs m,.txs [EXCS,EXTS]])
noncomputable abbrev Z0q (a b:Int) (c:List Row) (d:List Str) (e:SS) (f:List Str) (i:SS) (j:List Str) (k:SS) (l m o:List Str):Hp:=(.src a b::.tree c::Z42 d e f i j k [.txs l,.txs m,.txs o])
noncomputable abbrev Z4a (a:List Str) (b:SS) (c:List Str) (d:SS) (e:List Str) (f:SS) (r:Hp):Hp:=.list [.nat 1,.nat 2,.nat 3]::.list [.loc 4 .root,.loc 6 .root,.loc 8 .root]::.list [.loc 5 .root,.lst (strsAV a)]::.prs b::.list [.loc 7 .root,.lst (strsAV c)]::.prs d::.list [.loc 9 .root,.lst (strsAV e)]::.prs f::.list [.loc 1 .root,.nat 0,.loc 2 .root,.loc 3 .root]::r
noncomputable abbrev Z0y (a b:Int) (c:List Row) (d:List Str) (e:SS) (f:List Str) (i:SS) (j:List Str) (k:SS) (l m o:List Str):Hp:=(.src a b::.tree c::Z4a d e f i j k [.txs l,.txs m,.txs o])
noncomputable abbrev Z3r:Vars:=[("source",L0),("some",L11)]
noncomputable abbrev Z1s (a:Nat) (b:List Str):Vars:=[("source",L0),("sheet",L10),("tree",L1),("root",.nat 0),("line",L2),("rows",L3),("k",.nat a),("some",L11),("words",.lst (strsAV b))]
noncomputable abbrev Z2b (a b:Int) (c:List Row) (d:List Str) (e:SS) (f:List Str) (i:SS) (j:List Str) (k:SS) (l m:List Str):Hp:=(.src a b::.tree c::Z42 d e f i j k [.txs l,.txs (m.map txt),.txs [EXCS,EXTS]])
noncomputable abbrev Z0n (a:Nat):Vars:=[("source",L0),("sheet",L10),("tree",L1),("root",.nat 0),("line",L2),("rows",L3),("k",.nat a),("some",L11)]
noncomputable abbrev Z2q (a b:Int) (c:List Row) (d:List Str) (e:SS) (f:List Str) (i:SS) (j:List Str) (k:SS) (l:List Str):Hp:=(.src a b::.tree c::Z42 d e f i j k [.txs l,.txs []])
noncomputable abbrev Z24:List Str:=["source","sheet","tree","root","line","rows","k","some"]
noncomputable abbrev Z32 (a b:Int) (c:List Row) (d:List Str) (e:SS) (f:List Str) (i:SS) (j:List Str) (k:SS) (l:Str) (m:List Str):Hp:=(.src a b::.tree c::Z42 d e f i j k [.txs (l::m)])
noncomputable abbrev Z2v (a b:Int) (c:List Row) (d:List Str) (e:SS) (f:List Str) (i:SS) (j:List Str) (k:SS) (l:Str) (m:List Str):Hp:=(.src a b::.tree c::Z42 d e f i j k [.txs (l::m),.txs []])
noncomputable abbrev Z2a (a b:Int) (c:List Row) (d:List Str) (e:SS) (f:List Str) (i:SS) (j:List Str) (k:SS) (l m o:List Str) (p:Nat):Hp:=(.src a b::.tree c::Z42 d e f i j k [.txs (someS (lawScN [(e,l),(i,m),(k,o)] (p+1)))])
noncomputable abbrev Z12:Vars:=[("source",L0),("sheet",L10),("tree",L1),("root",.nat 0),("line",L2),("rows",L3)]
noncomputable abbrev Z0h (a b:Int) (c:List Row) (d:List Str) (e:SS) (f:List Str) (i:SS) (j:List Str) (k:SS):Hp:=(.src a b::.tree c::Z42 d e f i j k [])
section
variable {g:Cx} (G:Gl g TT) (n:Nat)
include G
theorem lo_set0 {x y:Int} {t:List Row} {p0 p1 p2:SS} {w0 w1 w2:List Str} {SM:List Str} {W:List Str}:SR g (n+7) (fun i=>i<11) (scF 713) (Z2i W) (stF 713 [1,2] 1) (Z0k x y t w0 p0 w1 p1 w2 p2 SM) .next ((Z2i W)) ((Z0k x y t W p0 w1 p1 w2 p2 SM)):=
 .gz1 G [.c,.c] .n
theorem lo_set1 {x y:Int} {t:List Row} {p0 p1 p2:SS} {w0 w1 w2:List Str} {SM:List Str} {W:List Str}:SR g (n+7) (fun i=>i<11) (scF 713) (Z2j W) (stF 713 [1,2] 1) (Z0k x y t w0 p0 w1 p1 w2 p2 SM) .next ((Z2j W)) ((Z0k x y t w0 p0 W p1 w2 p2 SM)):=
 .gz1 G [.c,.c] .n
theorem lo_set2 {x y:Int} {t:List Row} {p0 p1 p2:SS} {w0 w1 w2:List Str} {SM:List Str} {W:List Str}:SR g (n+7) (fun i=>i<11) (scF 713) (Z2k W) (stF 713 [1,2] 1) (Z0k x y t w0 p0 w1 p1 w2 p2 SM) .next ((Z2k W)) ((Z0k x y t w0 p0 w1 p1 W p2 SM)):=
 .gz1 G [.c,.c] .n
theorem lo_txt_true {x y:Int} {t:List Row} {p0 p1 p2:SS} {w0 w1 w2:List Str} {SM:List Str} {w:Str} (h:strB w (Q_ "")=true):EvR g (n+7) (cSc (exF 713 [1,2] 2 [])) (setL "word" (.str w) []) (cElt (exF 713 [1,2] 2 [])) (Z03 x y t w0 p0 w1 p1 w2 p2 SM) (.str "#default") ((Z03 x y t w0 p0 w1 p1 w2 p2 SM)):=
 .gz G [.b true] (.c h .n)
theorem lo_txt_false {x y:Int} {t:List Row} {p0 p1 p2:SS} {w0 w1 w2:List Str} {SM:List Str} {w:Str} (h:strB w (Q_ "")=false):EvR g (n+7) (cSc (exF 713 [1,2] 2 [])) (setL "word" (.str w) []) (cElt (exF 713 [1,2] 2 [])) (Z03 x y t w0 p0 w1 p1 w2 p2 SM) (.str w) ((Z03 x y t w0 p0 w1 p1 w2 p2 SM)):=
 .gz G [.b false] (.c h .n)
theorem lo_txt {x y:Int} {t:List Row} {p0 p1 p2:SS} {w0 w1 w2:List Str} {SM:List Str} {w:Str}:EvR g (n+7) (cSc (exF 713 [1,2] 2 [])) (setL "word" (.str w) []) (cElt (exF 713 [1,2] 2 [])) (Z03 x y t w0 p0 w1 p1 w2 p2 SM) (.str (txt w)) (Z03 x y t w0 p0 w1 p1 w2 p2 SM):=by
 unfold txt
 cases h:strB w "" with
|true=>exact lo_txt_true G n h
|false=>exact lo_txt_false G n h
theorem lo_c2 {x y:Int} {t:List Row} {p0 p1 p2:SS} {w0 w1 w2:List Str} {SM:List Str} {W:List Str}:CoL g (n+7) (cSc (exF 713 [1,2] 2 [])) (cGen (exF 713 [1,2] 2 [])).target (cElt (exF 713 [1,2] 2 [])) (cGen (exF 713 [1,2] 2 [])).ifs (.lst (.lst (strsAV W))) (Z03 x y t w0 p0 w1 p1 w2 p2 SM) W.length 0 [] (Z03 x y t w0 p0 w1 p1 w2 p2 SM) (strsAV (W.map txt)):=by
 rw [show strsAV (W.map txt)=W.filterMap fun w=>some (.str (txt w)) by rw [filterMap_some (fun x _=>rfl),strsAV,List.map_map];rfl]
 refine .same1 (k:=Q_ "word") .str _ (by kernel_rfl) (by kernel_rfl) rfl (fun x _ e=>nomatch e) fun x hx y e=>?_
 obtain rfl:=Option.some.inj e
 exact ⟨noIfs (by kernel_rfl),lo_txt G n⟩
theorem lo_b1 {x y:Int} {t:List Row} {p0 p1 p2:SS} {w0 w1 w2:List Str} {SM:List Str} {W TX:List Str} {k:Nat} (h:decide (Int.ofNat (lenO (.list (strsAV W)))<2)=true):TvR g (n+7) (scF 713) (Z0c k W) (exS (stF 713 [1,2] 4)) (Z0i x y t w0 p0 w1 p1 w2 p2 SM TX) (true) ((Z0i x y t w0 p0 w1 p1 w2 p2 SM TX)):=
 .gz G [.b true] (.c h .n)
theorem lo_b20 {x y:Int} {t:List Row} {p0 p1 p2:SS} {w0 w1 w2:List Str} {SM:List Str} {W TX:List Str} {k:Nat} {x1 y1:Int} (h:decide (Int.ofNat (lenO (.list (strsAV W)))<2)=false) (hC:CR g (n+7) 686 [L0,.nat 2] [.src x y] (.nat 0) [.src x1 y1]):TvR g (n+7) (scF 713) (Z0c k W) (exS (stF 713 [1,2] 4)) (Z0i x y t w0 p0 w1 p1 w2 p2 SM TX) (true) ((Z0i x1 y1 t w0 p0 w1 p1 w2 p2 SM TX)):=
 .gz G [.b false,.call [0] (.nat 0) [.src x1 y1],.c] (.c h (.c hC .n))
theorem lo_b21 {x y:Int} {t:List Row} {p0 p1 p2:SS} {w0 w1 w2:List Str} {SM:List Str} {W TX:List Str} {k:Nat} {x1 y1:Int} (h:decide (Int.ofNat (lenO (.list (strsAV W)))<2)=false) (hC:CR g (n+7) 686 [L0,.nat 2] [.src x y] (.nat 1) [.src x1 y1]):TvR g (n+7) (scF 713) (Z0c k W) (exS (stF 713 [1,2] 4)) (Z0i x y t w0 p0 w1 p1 w2 p2 SM TX) (false) ((Z0i x1 y1 t w0 p0 w1 p1 w2 p2 SM TX)):=
 .gz G [.b false,.call [0] (.nat 1) [.src x1 y1],.c] (.c h (.c hC .n))
theorem lo_join {x y:Int} {t:List Row} {p0 p1 p2:SS} {w0 w1 w2:List Str} {SM:List Str} {W TX:List Str} {k:Nat} {x1 y1 x2 y2:Int} {nm pre:Str} (hO1:CR g (n+7) 693 [L0,L1] [.src x y,.txs [EXCS,EXTS]] (.str nm) [.src x1 y1,.txs [EXCS,EXTS]]) (hO2:CR g (n+7) 693 [L0,L1] [.src x1 y1,.txs [""," "]] (.str pre) [.src x2 y2,.txs [""," "]]) (hf:Nat.ble (TX.foldl (fun n p=>n+p.length+(Q_ "  ").length) 0) cap=true) (ho:okS (Str.join "  " TX)=true) (hl:Nat.ble (pre.length+(Str.join "  " TX).length) cap=true):SsR g (n+7) (fun i=>i<11) (scF 713) (Z0c k W) (blk (stF 713 [1,2] 4)) (Z0i x y t w0 p0 w1 p1 w2 p2 SM TX) .next ((Z0c k W)) ((.src x2 y2::.tree t::Z42 w0 p0 w1 p1 w2 p2 [.txs SM,.txs [pre++(Q_ "  ").join TX],.txs [nm]])):=
 .gz G [.s,.call [0,13] (.str nm) [.src x1 y1,.txs [EXCS,EXTS]],.k 1,.k 1,.call [0,15] (.str pre) [.src x2 y2,.txs [""," "]],.o,.o,.o,.k 1,.gc [0,1,2,3,4,5,6,7,8,9,10,11,16,14] ["source","sheet","tree","root","line","rows","k","some","words","texts","names"]] (.c hO1 (.c hO2 (.c hf (.c ho (.c hl .n)))))
theorem lo_no4 {x y:Int} {t:List Row} {p0 p1 p2:SS} {w0 w1 w2:List Str} {SM:List Str} {W TX:List Str} {k:Nat}:SsR g (n+7) (fun i=>i<11) (scF 713) (Z0c k W) (elsS (stF 713 [1,2] 4)) (Z0i x y t w0 p0 w1 p1 w2 p2 SM TX) .next ((Z0c k W)) ((Z0i x y t w0 p0 w1 p1 w2 p2 SM TX)):=
 .gz G [] .n
theorem lo_at0 {x y:Int} {t:List Row} {p0 p1 p2:SS} {w0 w1 w2:List Str} {SM:List Str} {W TX NM:List Str} {lo tx:Str} {t1:List Row} {v:Nat} (hC:CR g (n+7) 475 [L0,.nat 1,.str lo,.str "",.str lo,.str tx] [.tree t] (.nat v) [.tree t1]):SsR g (n+7) (fun i=>i<14) (scF 713) (setL "text" (.str tx) (setL "local" (.str lo) [("source",L0),("sheet",L10),("tree",L1),("root",.nat 0),("line",L2),("rows",L3),("k",.nat 0),("some",L11),("words",.lst (strsAV W)),("texts",L12),("names",L13)])) (ssF 713 [1,2,5]) (Z0q x y t w0 p0 w1 p1 w2 p2 SM TX NM) .next ([("source",L0),("sheet",L10),("tree",L1),("root",.nat 0),("line",L2),("rows",L3),("k",.nat 0),("some",L11),("words",.lst (strsAV W)),("texts",L12),("names",L13),("local",.str lo),("text",.str tx)]) ((Z0q x y t1 w0 p0 w1 p1 w2 p2 SM TX NM)):=
 .gz G [.c,.c,.c,.call [1] (.nat v) [.tree t1]] (.c hC .n)
theorem lo_at1 {x y:Int} {t:List Row} {p0 p1 p2:SS} {w0 w1 w2:List Str} {SM:List Str} {W TX NM:List Str} {lo tx:Str} {t1:List Row} {v:Nat} {k:Nat} (hC:CR g (n+7) 475 [.loc 0 .root,.nat (k+1),.str (Q_ "xsl:"++lo),.str XSLTU,.str lo,.str tx] [.tree t] (.nat v) [.tree t1]) (hk:[AV.nat 1,.nat 2,.nat 3][k]?=some (.nat (k+1))) (h0:(Int.ofNat k==0)=false) (hl:Nat.ble ((Q_ "xsl:").length+lo.length) cap=true):SsR g (n+7) (fun i=>i<14) (scF 713) (setL (Q_ "text") (.str tx) (setL (Q_ "local") (.str lo) [(Q_ "source",.loc 0 .root),(Q_ "sheet",.loc 10 .root),(Q_ "tree",.loc 1 .root),(Q_ "root",.nat 0),(Q_ "line",.loc 2 .root),(Q_ "rows",.loc 3 .root),(Q_ "k",.nat k),(Q_ "some",.loc 11 .root),(Q_ "words",.lst (strsAV W)),(Q_ "texts",.loc 12 .root),(Q_ "names",.loc 13 .root)])) (ssF 713 [1,2,5]) (Z0y x y t w0 p0 w1 p1 w2 p2 SM TX NM) (Fl.next) ([(Q_ "source",L0),(Q_ "sheet",L10),(Q_ "tree",L1),(Q_ "root",AV.nat 0),(Q_ "line",L2),(Q_ "rows",L3),(Q_ "k",AV.nat k),(Q_ "some",L11),(Q_ "words",AV.lst (strsAV W)),(Q_ "texts",L12),(Q_ "names",L13),(Q_ "local",AV.str lo),(Q_ "text",AV.str tx)]) ([AObj.src x y,AObj.tree t1,AObj.list [AV.nat 1,AV.nat 2,AV.nat 3],AObj.list [L4,L6,L8],AObj.list [L5,AV.lst (strsAV w0)],AObj.prs p0,AObj.list [L7,AV.lst (strsAV w1)],AObj.prs p1,AObj.list [L9,AV.lst (strsAV w2)],AObj.prs p2,AObj.list [L1,AV.nat 0,L2,L3],AObj.txs SM,AObj.txs TX,AObj.txs NM]):=
 .go G 60 [Hint.v (AV.nat (k+1)),Hint.b false,Hint.o,Hint.b false,Hint.call [1] (AV.nat v) [AObj.tree t1]] (Eq.mp (α:=([AV.nat 1,AV.nat 2,AV.nat 3][k]?=some (AV.nat (k+1)))∧((bif false then Int.ofNat k != Int.ofNat 0 else Int.ofNat k==Int.ofNat 0)=false)∧((4+lo.length).ble 1000000=true)∧((bif false then Int.ofNat k != Int.ofNat 0 else Int.ofNat k==Int.ofNat 0)=false)∧(CR g (n+6+1) 475 [L0,AV.nat (k+1),AV.str (Q_ "xsl:"++lo),AV.str (Q_ "http://www.w3.org/1999/XSL/Transform"),AV.str lo,AV.str tx] [AObj.tree t] (AV.nat v) [AObj.tree t1])∧(Fl.next=Fl.next∧[(Q_ "source",L0),(Q_ "sheet",L10),(Q_ "tree",L1),(Q_ "root",AV.nat 0),(Q_ "line",L2),(Q_ "rows",L3),(Q_ "k",AV.nat k),(Q_ "some",L11),(Q_ "words",AV.lst (strsAV W)),(Q_ "texts",L12),(Q_ "names",L13),(Q_ "local",AV.str lo),(Q_ "text",AV.str tx)]=[(Q_ "source",L0),(Q_ "sheet",L10),(Q_ "tree",L1),(Q_ "root",AV.nat 0),(Q_ "line",L2),(Q_ "rows",L3),(Q_ "k",AV.nat k),(Q_ "some",L11),(Q_ "words",AV.lst (strsAV W)),(Q_ "texts",L12),(Q_ "names",L13),(Q_ "local",AV.str lo),(Q_ "text",AV.str tx)]∧[AObj.src x y,AObj.tree t1,AObj.list [AV.nat 1,AV.nat 2,AV.nat 3],AObj.list [L4,L6,L8],AObj.list [L5,AV.lst (strsAV w0)],AObj.prs p0,AObj.list [L7,AV.lst (strsAV w1)],AObj.prs p1,AObj.list [L9,AV.lst (strsAV w2)],AObj.prs p2,AObj.list [L1,AV.nat 0,L2,L3],AObj.txs SM,AObj.txs TX,AObj.txs NM]=[AObj.src x y,AObj.tree t1,AObj.list [AV.nat 1,AV.nat 2,AV.nat 3],AObj.list [L4,L6,L8],AObj.list [L5,AV.lst (strsAV w0)],AObj.prs p0,AObj.list [L7,AV.lst (strsAV w1)],AObj.prs p1,AObj.list [L9,AV.lst (strsAV w2)],AObj.prs p2,AObj.list [L1,AV.nat 0,L2,L3],AObj.txs SM,AObj.txs TX,AObj.txs NM])) (by kernel_rfl) ⟨hk,h0,hl,h0,hC,rfl,rfl,rfl⟩)
theorem lo_body {x y:Int} {t:List Row} {p0 p1 p2:SS} {w0 w1 w2:List Str} {SM:List Str} {v0 v1 v2:List Str} {W TX NM:List Str} {k d:Nat} {x1 y1 x2 y2 x3 y3:Int} {t1:List Row} (hC:CR g (n+7) 686 [L0,.nat 2] [.src x y] (.nat d) [.src x1 y1]) (hd:Nat.ble (1+d) cap=true) (hW:CoL g (n+7) (cSc (exF 713 [1,2] 0 [])) (cGen (exF 713 [1,2] 0 [])).target (cElt (exF 713 [1,2] 0 [])) (cGen (exF 713 [1,2] 0 [])).ifs (.rng 0 (1+d)) (Z03 x2 y2 t w0 p0 w1 p1 w2 p2 SM) (1+d) 0 Z3r (Z03 x1 y1 t w0 p0 w1 p1 w2 p2 SM) (strsAV W)) (hX:SR g (n+7) (fun i=>i<11) (scF 713) (Z1s k W) (stF 713 [1,2] 1) (Z0k x2 y2 t w0 p0 w1 p1 w2 p2 SM) .next (Z1s k W) (Z0k x2 y2 t v0 p0 v1 p1 v2 p2 SM)) (hw:W.length≤2) (h4:SR g (n+7) (fun i=>i<11) (scF 713) (Z0c k W) (stF 713 [1,2] 4) (Z2b x2 y2 t v0 p0 v1 p1 v2 p2 SM W) .next (Z0c k W) (Z0q x3 y3 t v0 p0 v1 p1 v2 p2 SM TX NM)) (h5:(∃ kk,LoR g (n+7) (fun i=>i<14) (scF 713) (forT (stF 713 [1,2] 5)) (ssF 713 [1,2,5]) (.zip L13 L12) .next (Z0c k W) (Z0q x3 y3 t1 v0 p0 v1 p1 v2 p2 SM TX NM) kk 0 (Z0c k W) (Z0q x3 y3 t v0 p0 v1 p1 v2 p2 SM TX NM))):SsR g (n+7) (fun i=>i<11) (scF 713) (Z0n k) (blk (stF 713 [1] 2)) (Z2q x y t w0 p0 w1 p1 w2 p2 SM) .next ((Z0n k)) ((Z03 x3 y3 t1 v0 p0 v1 p1 v2 p2 SM)):=
 .gz G [.gc Z1c Z24,.call [0] (.nat d) [.src x1 y1],.o,.comp (1+d) (strsAV W) (.txs W) (Z03 x2 y2 t w0 p0 w1 p1 w2 p2 SM),.fz 12,.stm .next (Z1s k W) (Z0k x2 y2 t v0 p0 v1 p1 v2 p2 SM),.gc Z1c ["source","sheet","tree","root","line","rows","k","some","words"],.comp W.length (strsAV (List.map txt W)) (.txs (List.map txt W)) (Z03 x2 y2 t v0 p0 v1 p1 v2 p2 SM),.k 1,.stm .next (Z0c k W) (Z0q x3 y3 t v0 p0 v1 p1 v2 p2 SM TX NM),.loop .next (Z0c k W) (Z0q x3 y3 t1 v0 p0 v1 p1 v2 p2 SM TX NM),.gc Z1c Z24] (.c hC (.c hd (.c hW (.c (Nat.le_of_ble_eq_true hd) (.c (rfl:some (strsAV W)=some (strsAV W)) (.c hX (.c (lo_c2 G n:CoL g (n+6+1) (cSc (exF 713 [1,2] 2 [])) (cGen (exF 713 [1,2] 2 [])).target (cElt (exF 713 [1,2] 2 [])) (cGen (exF 713 [1,2] 2 [])).ifs (Src.lst (.lst (strsAV W))) (Z03 x2 y2 t v0 p0 v1 p1 v2 p2 SM) W.length 0 [] (Z03 x2 y2 t v0 p0 v1 p1 v2 p2 SM) (strsAV (List.map txt W))) (.c (Nat.le_trans hw (Nat.le_of_ble_eq_true rfl):W.length≤1000000) (.c (rfl:some (strsAV (List.map txt W))=some (strsAV (List.map txt W))) (.c h4 (.c h5 (.c (⟨VIn.loc (Nat.le_of_ble_eq_true rfl),VIn.loc (Nat.le_of_ble_eq_true rfl)⟩:SrcIn (fun i=>i<14) (Src.zip L13 L12)) .n))))))))))))
theorem lo_no2 {x y:Int} {t:List Row} {p0 p1 p2:SS} {w0 w1 w2:List Str} {SM:List Str} {k:Nat}:SsR g (n+7) (fun i=>i<11) (scF 713) (Z0n k) (elsS (stF 713 [1] 2)) (Z2q x y t w0 p0 w1 p1 w2 p2 SM) .next ((Z0n k)) ((Z03 x y t w0 p0 w1 p1 w2 p2 SM)):=
 .gz G [.gc Z1c Z24] .n
theorem lo_a1 {x y:Int} {t:List Row} {p0 p1 p2:SS} {w0 w1 w2:List Str} {k:Nat}:TvR g (n+7) (scF 713) (Z0n k) (exS (stF 713 [1] 2)) (.src x y::.tree t::Z42 w0 p0 w1 p1 w2 p2 [.txs []]) (false) ((.src x y::.tree t::Z42 w0 p0 w1 p1 w2 p2 [.txs [],.txs []])):=
 .gz G [.k 1,.b true,.c] (.c (.same (.inl ⟨[],rfl,rfl⟩) rfl:EqL [] [] true) .n)
theorem lo_a2t {x y:Int} {t:List Row} {p0 p1 p2:SS} {w0 w1 w2:List Str} {SM:List Str} {k d:Nat} {q:Str} {x1 y1:Int} (hC:CR g (n+7) 686 [L0,.nat 3] [.src x y] (.nat d) [.src x1 y1]) (hd:decide ((0:Int)<Int.ofNat d)=true):TvR g (n+7) (scF 713) (Z0n k) (exS (stF 713 [1] 2)) (Z32 x y t w0 p0 w1 p1 w2 p2 q SM) (true) ((Z2v x1 y1 t w0 p0 w1 p1 w2 p2 q SM)):=
 .gz G [.k 1,.b false,.c,.call [0] (.nat d) [.src x1 y1],.b true] (.c (.diff (.inl ⟨q::SM,rfl,rfl⟩) rfl rfl:EqL (strsAV (q::SM)) [] false) (.c hC (.c hd .n)))
theorem lo_a2f {x y:Int} {t:List Row} {p0 p1 p2:SS} {w0 w1 w2:List Str} {SM:List Str} {k d:Nat} {q:Str} {x1 y1:Int} (hC:CR g (n+7) 686 [L0,.nat 3] [.src x y] (.nat d) [.src x1 y1]) (hd:decide ((0:Int)<Int.ofNat d)=false):TvR g (n+7) (scF 713) (Z0n k) (exS (stF 713 [1] 2)) (Z32 x y t w0 p0 w1 p1 w2 p2 q SM) (false) ((Z2v x1 y1 t w0 p0 w1 p1 w2 p2 q SM)):=
 .gz G [.k 1,.b false,.c,.call [0] (.nat d) [.src x1 y1],.b false] (.c (.diff (.inl ⟨q::SM,rfl,rfl⟩) rfl rfl:EqL (strsAV (q::SM)) [] false) (.c hC (.c hd .n)))
theorem lo_turn {x y:Int} {t:List Row} {p0 p1 p2:SS} {w0 w1 w2:List Str} {v0 v1 v2:List Str} {k:Nat} {x1 y1:Int} {t1:List Row} (hk:k+1≤3) (fw:FewPW [(p0,w0),(p1,w1),(p2,w2)]) (hl:(lawScN [(p0,w0),(p1,w1),(p2,w2)] (k+1)).length≤60) (hm:Nat.blt (((lawScN [(p0,w0),(p1,w1),(p2,w2)] (k+1)).map (·.1)).filter fun k=>!strB k "xsl").length 60=true) (hI:SR g (n+7) (fun i=>i<11) (scF 713) (Z0n k) (stF 713 [1] 2) (.src x y::.tree t::Z42 w0 p0 w1 p1 w2 p2 [.txs (someS (lawScN [(p0,w0),(p1,w1),(p2,w2)] (k+1)))]) .next (Z0n k) (Z2a x1 y1 t1 v0 p0 v1 p1 v2 p2 w0 w1 w2 k)):SsR g (n+7) (fun i=>i<11) (scF 713) (setL "k" (.nat k) Z12) (ssF 713 [1]) (Z0h x y t w0 p0 w1 p1 w2 p2) .next (Z12) ((Z0h x1 y1 t1 v0 p0 v1 p1 v2 p2)):=
 .gz G [.call [3,4,5,6,7,8,9] L7 (Z41 w0 p0 w1 p1 w2 p2 [.dss (lawScN [(p0,w0),(p1,w1),(p2,w2)] (k+1))]),.s,.o,.o,.gc [0,1,2,3,4,5,6,7,8,9,10,13] Z24,.stm .next (Z0n k) (Z2a x1 y1 t1 v0 p0 v1 p1 v2 p2 w0 w1 w2 k),.gc [0,1,2,3,4,5,6,7,8,9,10] ["source","sheet","tree","root","line","rows"]] (.c (lsc_cr G (n+4) hk fw) (.c ((Nat.ble_eq_true_of_le (Nat.le_trans hl (Nat.le_of_ble_eq_true rfl))):(lawScN [(p0,w0),(p1,w1),(p2,w2)] (k+1)).length.ble 1000000=true) (.c hm (.c hI .n))))
end
theorem join_fold:(allWs.all fun ws=>Nat.ble ((ws.map txt).foldl (fun n p=>n+p.length+(Q_ "  ").length) 0) cap)=true:=by decide +kernel
theorem one_none {U v:Str} (h:U∈Us):attrOf EXTS U [(EXCS,U,v)]=none:=by
 have z:strB EXCS EXTS=false:=by decide +kernel
 rw [attrOf,z];rfl
def AtStep (g:Cx) (n k:Nat) (U:Str):Prop:=∀ (t:List Row) (es:List El) (e:El) (lo tx:Str),TV t es→es[k]?=some e→t.length<900→e.ats.length<10→(lo=EXCS∨lo=EXTS)→∃ t' ats',t'.length≤t.length+1∧TV t' (es.set k { e with ats:=ats' })∧(attrOf lo U e.ats=none→ats'=e.ats++[(lo,U,tx)]) ∧
  ∀ (x y:Int) (p0 p1 p2:SS) (w0 w1 w2 SM W TX NM:List Str),SsR g (n+7) (fun i=>i<14) (scF 713) (setL "text" (.str tx) (setL "local" (.str lo) [("source",L0),("sheet",L10),("tree",L1),("root",.nat 0),("line",L2),("rows",L3),("k",.nat k),("some",L11),("words",.lst (strsAV W)),("texts",L12),("names",L13)])) (ssF 713 [1,2,5]) (.src x y::.tree t::Z4b [.list [L5,.lst (strsAV w0)],.prs p0,.list [L7,.lst (strsAV w1)],.prs p1,.list [L9,.lst (strsAV w2)],.prs p2,.list [L1,.nat 0,L2,L3],.txs SM,.txs TX,.txs NM]) .next [("source",L0),("sheet",L10),("tree",L1),("root",.nat 0),("line",L2),("rows",L3),("k",.nat k),("some",L11),("words",.lst (strsAV W)),("texts",L12),("names",L13)] (.src x y::.tree t'::Z4b [.list [L5,.lst (strsAV w0)],.prs p0,.list [L7,.lst (strsAV w1)],.prs p1,.list [L9,.lst (strsAV w2)],.prs p2,.list [L1,.nat 0,L2,L3],.txs SM,.txs TX,.txs NM])
def SetStep (g:Cx) (n k:Nat) (f0 f1 f2:List Str→List Str):Prop:=∀ (x y:Int) (t:List Row) (p0 p1 p2:SS) (SM W:List Str),SR g (n+7) (fun i=>i<11) (scF 713) [("source",L0),("sheet",L10),("tree",L1),("root",.nat 0),("line",L2),("rows",L3),("k",.nat k),("some",L11),("words",.lst (strsAV W))] (stF 713 [1,2] 1) (.src x y::.tree t::Z4b [.list [L5,.lst (strsAV (f0 []))],.prs p0,.list [L7,.lst (strsAV (f1 []))],.prs p1,.list [L9,.lst (strsAV (f2 []))],.prs p2,.list [L1,.nat 0,L2,L3],.txs SM,.dead]) .next [("source",L0),("sheet",L10),("tree",L1),("root",.nat 0),("line",L2),("rows",L3),("k",.nat k),("some",L11),("words",.lst (strsAV W))] (.src x y::.tree t::Z4b [.list [L5,.lst (strsAV (f0 W))],.prs p0,.list [L7,.lst (strsAV (f1 W))],.prs p1,.list [L9,.lst (strsAV (f2 W))],.prs p2,.list [L1,.nat 0,L2,L3],.txs SM,.dead])
noncomputable abbrev Z0x (a b:Int) (c:List Row) (d:List Str) (e:SS) (f:List Str) (i:SS) (j:List Str) (k:SS) (l m:List Str):Hp:=(.src a b::.tree c::Z4a d e f i j k [.txs l,.txs (m.map txt),.txs [EXCS,EXTS]])
section
variable {g:Cx} (G:Gl g TT) (n:Nat)
include G
theorem lo_w {x y:Int} {t:List Row} {p0 p1 p2:SS} {w0 w1 w2:List Str} {SM:List Str} {x1 y1:Int} {u:Str} (hO:CR g (n+7) 693 [L0,L1] [.src x y,.txs SM] (.str u) [.src x1 y1,.txs SM]):EvR g (n+7) (cSc (exF 713 [1,2] 0 [])) Z3r (cElt (exF 713 [1,2] 0 [])) (Z03 x y t w0 p0 w1 p1 w2 p2 SM) (.str u) ((Z03 x1 y1 t w0 p0 w1 p1 w2 p2 SM)):=
 .gz G [.call [0,11] (.str u) [.src x1 y1,.txs SM]] (.c hO .n)
theorem lo_words (X:Orc g n) {x y:Int} {t:List Row} {p0 p1 p2:SS} {w0 w1 w2:List Str} {SM:List Str} (h0:0<SM.length) (h9:SM.length<10) {d:Nat} (hd:d<2):∃ W x' y',W.length=1+d∧(∀ w∈W,w∈SM)∧CoL g (n+7) (cSc (exF 713 [1,2] 0 [])) (cGen (exF 713 [1,2] 0 [])).target (cElt (exF 713 [1,2] 0 [])) (cGen (exF 713 [1,2] 0 [])).ifs (.rng 0 (1+d)) (.src x' y'::.tree t::Z42 w0 p0 w1 p1 w2 p2 [.txs SM]) (1+d) 0 Z3r (Z03 x y t w0 p0 w1 p1 w2 p2 SM) (strsAV W):=by
 obtain ⟨a,x1,y1,ha,C1⟩:=one_cr G (n+4) (X.up 4) h0 h9 x y
 rcases lo_two hd with rfl|rfl
 ·exact ⟨[a],x1,y1,rfl,fun w hw=>List.mem_singleton.mp hw▸ha,.yes (srcAt_rng (by decide)) (.nm (k:=Q_ "turn") (by kernel_rfl)) (noIfs (by kernel_rfl)) (EvR.more (SubV.refl.new (k:=Q_ "turn") (by kernel_rfl)) (lo_w G n C1)) (.done srcAt_rngE)⟩
 ·obtain ⟨b,x2,y2,hb,C2⟩:=one_cr G (n+4) (X.up 4) h0 h9 x1 y1
  exact ⟨[a,b],x2,y2,rfl,fun w hw=>(List.mem_cons.mp hw).elim (fun e=>e▸ha) fun hw=>List.mem_singleton.mp hw▸hb,.yes (srcAt_rng (by decide)) (.nm (k:=Q_ "turn") (by kernel_rfl)) (noIfs (by kernel_rfl)) (EvR.more (SubV.refl.new (k:=Q_ "turn") (by kernel_rfl)) (lo_w G n C1)) (.yes (srcAt_rng (by decide)) (.nm (k:=Q_ "turn") (by kernel_rfl)) (noIfs (by kernel_rfl)) (EvR.more (SubV.refl.new (k:=Q_ "turn") (by kernel_rfl) |>.new (k:=Q_ "turn") (by kernel_rfl)) (lo_w G n C2)) (.done srcAt_rngE))⟩
theorem lo_ats0:AtStep g n 0 "":=fun t es e lo tx tv he hl ha hlo=>by
 obtain ⟨v,t',ats',C,h1,h2,_,_,h3⟩:=setat_cr G (n+2) (na:=lo) (u:=("")) (lo:=lo) (v:=tx) tv he (Nat.lt_trans hl (by decide)) (Nat.lt_trans ha (by decide))
 exact ⟨t',ats',h1,h2,h3,fun x y p0 p1 p2 w0 w1 w2 SM W TX NM=>(lo_at0 G n C).less ((SubV.refl.new (k:=Q_ "local") (by kernel_rfl)).new (k:=Q_ "text") (by kernel_rfl))⟩
theorem lo_ats1:AtStep g n 1 XSLTU:=fun t es e lo tx tv he hl ha hlo=>by
 obtain ⟨v,t',ats',C,h1,h2,_,_,h3⟩:=setat_cr G (n+2) (na:=(Q_ "xsl:"++lo)) (u:=XSLTU) (lo:=lo) (v:=tx) tv he (Nat.lt_trans hl (by decide)) (Nat.lt_trans ha (by decide))
 exact ⟨t',ats',h1,h2,h3,fun x y p0 p1 p2 w0 w1 w2 SM W TX NM=>(lo_at1 G n C rfl rfl (by rcases hlo with rfl|rfl<;>decide +kernel)).less ((SubV.refl.new (k:=Q_ "local") (by kernel_rfl)).new (k:=Q_ "text") (by kernel_rfl))⟩
theorem lo_ats2:AtStep g n 2 XSLTU:=fun t es e lo tx tv he hl ha hlo=>by
 obtain ⟨v,t',ats',C,h1,h2,_,_,h3⟩:=setat_cr G (n+2) (na:=(Q_ "xsl:"++lo)) (u:=XSLTU) (lo:=lo) (v:=tx) tv he (Nat.lt_trans hl (by decide)) (Nat.lt_trans ha (by decide))
 exact ⟨t',ats',h1,h2,h3,fun x y p0 p1 p2 w0 w1 w2 SM W TX NM=>(lo_at1 G n C rfl rfl (by rcases hlo with rfl|rfl<;>decide +kernel)).less ((SubV.refl.new (k:=Q_ "local") (by kernel_rfl)).new (k:=Q_ "text") (by kernel_rfl))⟩
theorem lo_sets0 {w1 w2:List Str}:SetStep g n 0 (fun W=>W) (fun _=>w1) (fun _=>w2):=fun _ _ _ _ _ _ _ _=>lo_set0 G n
theorem lo_sets1 {w0 w2:List Str}:SetStep g n 1 (fun _=>w0) (fun W=>W) (fun _=>w2):=fun _ _ _ _ _ _ _ _=>lo_set1 G n
theorem lo_sets2 {w0 w1:List Str}:SetStep g n 2 (fun _=>w0) (fun _=>w1) (fun W=>W):=fun _ _ _ _ _ _ _ _=>lo_set2 G n
theorem lo_turnM {x y:Int} {t:List Row} {p0 p1 p2:SS} {w0 w1 w2:List Str} {v0 v1 v2 SM:List Str} {k:Nat} {x1 y1:Int} {t1:List Row} (hM:someS (lawScN [(p0,w0),(p1,w1),(p2,w2)] (k+1))=SM) (hk:k+1≤3) (fw:FewPW [(p0,w0),(p1,w1),(p2,w2)]) (hl:(lawScN [(p0,w0),(p1,w1),(p2,w2)] (k+1)).length<10) (hI:SR g (n+7) (fun i=>i<11) (scF 713) (Z0n k) (stF 713 [1] 2) (Z03 x y t w0 p0 w1 p1 w2 p2 SM) .next (Z0n k) (Z03 x1 y1 t1 v0 p0 v1 p1 v2 p2 SM)):
  SsR g (n+7) (fun i=>i<11) (scF 713) (setL "k" (.nat k) Z12) (ssF 713 [1]) (Z0h x y t w0 p0 w1 p1 w2 p2) .next Z12 (Z0h x1 y1 t1 v0 p0 v1 p1 v2 p2):=by
 subst hM
 exact lo_turn G n hk fw (Nat.le_trans (Nat.le_of_lt hl) (by decide)) (Nat.ble_eq_true_of_le (Nat.le_trans (Nat.succ_le_succ (List.length_filter_le ..)) (by rw [List.length_map];exact Nat.le_trans hl (by decide)))) hI
theorem lo_join' (X:Orc g n) {x y x0 y0:Int} {t:List Row} {p0 p1 p2:SS} {w0 w1 w2:List Str} {SM W:List Str} {k:Nat} (hW:W∈allWs) (hT:TvR g (n+7) (scF 713) [(Q_ "source",.loc 0 .root),(Q_ "sheet",.loc 10 .root),(Q_ "tree",.loc 1 .root),(Q_ "root",.nat 0),(Q_ "line",.loc 2 .root),(Q_ "rows",.loc 3 .root),(Q_ "k",.nat k),(Q_ "some",.loc 11 .root),(Q_ "words",.lst (strsAV W)),(Q_ "texts",.loc 12 .root),(Q_ "names",.loc 13 .root)] (exS (stF 713 [1,2] 4)) (Z0x x0 y0 t w0 p0 w1 p1 w2 p2 SM W) true (Z0x x y t w0 p0 w1 p1 w2 p2 SM W)):∃ nm pre x' y',nm∈[EXCS,EXTS]∧pre∈[Q_ "",Q_ " "]∧SR g (n+7) (fun i=>i<11) (scF 713) [(Q_ "source",.loc 0 .root),(Q_ "sheet",.loc 10 .root),(Q_ "tree",.loc 1 .root),(Q_ "root",.nat 0),(Q_ "line",.loc 2 .root),(Q_ "rows",.loc 3 .root),(Q_ "k",.nat k),(Q_ "some",.loc 11 .root),(Q_ "words",.lst (strsAV W)),(Q_ "texts",.loc 12 .root),(Q_ "names",.loc 13 .root)] (stF 713 [1,2] 4) (Z0x x0 y0 t w0 p0 w1 p1 w2 p2 SM W) .next [(Q_ "source",.loc 0 .root),(Q_ "sheet",.loc 10 .root),(Q_ "tree",.loc 1 .root),(Q_ "root",.nat 0),(Q_ "line",.loc 2 .root),(Q_ "rows",.loc 3 .root),(Q_ "k",.nat k),(Q_ "some",.loc 11 .root),(Q_ "words",.lst (strsAV W)),(Q_ "texts",.loc 12 .root),(Q_ "names",.loc 13 .root)] (.src x' y'::.tree t::Z4a w0 p0 w1 p1 w2 p2 [.txs SM,.txs [pre++joinT W],.txs [nm]]):=by
 obtain ⟨nm,x1,y1,h1,C1⟩:=one_cr G (n+4) (X.up 4) (l:=[EXCS,EXTS]) (by decide) (by decide) x y
 obtain ⟨pre,x2,y2,h2,C2⟩:=one_cr G (n+4) (X.up 4) (l:=[Q_ "",Q_ " "]) (by decide) (by decide) x1 y1
 obtain ⟨j1,j2⟩:=join_ok hW
 have hp:pre.length≤1:=by
  rcases List.mem_cons.mp h2 with e|e
  ·rw [e];decide +kernel
  ·rw [List.mem_singleton.mp e];decide +kernel
 exact ⟨nm,pre,x2,y2,h1,h2,.if1 (by kernel_rfl) hT (lo_join G n C1 C2 (List.all_eq_true.mp join_fold W hW) j1 (Nat.ble_eq_true_of_le (Nat.le_trans (Nat.add_le_add hp j2) (Nat.le_of_ble_eq_true rfl))))⟩
omit G in
theorem lo_pre {W:List Str} {U nm pre:Str} (hU:U∈Us) (hW:W∈allWs) (h1:nm∈[EXCS,EXTS]) (h2:pre∈[Q_ "",Q_ " "]):WordsOk U [(nm,U,pre++joinT W)] W:=
 .of (List.all_eq_true.mp (List.all_eq_true.mp (List.all_eq_true.mp (List.all_eq_true.mp words_one U hU) nm h1) pre h2) W hW)
def LoZip (g:Cx) (n k:Nat) (x y:Int) (p0 p1 p2:SS) (w0 w1 w2 SM W TX NM:List Str) (t t':List Row):Prop:=∃ kk,LoR g (n+7) (fun i=>i<14) (scF 713) (forT (stF 713 [1,2] 5)) (ssF 713 [1,2,5]) (.zip (.loc 13 .root) (.loc 12 .root)) .next [(Q_ "source",.loc 0 .root),(Q_ "sheet",.loc 10 .root),(Q_ "tree",.loc 1 .root),(Q_ "root",.nat 0),(Q_ "line",.loc 2 .root),(Q_ "rows",.loc 3 .root),(Q_ "k",.nat k),(Q_ "some",.loc 11 .root),(Q_ "words",.lst (strsAV W)),(Q_ "texts",.loc 12 .root),(Q_ "names",.loc 13 .root)] (Z0y x y t' w0 p0 w1 p1 w2 p2 SM TX NM) kk 0 [(Q_ "source",.loc 0 .root),(Q_ "sheet",.loc 10 .root),(Q_ "tree",.loc 1 .root),(Q_ "root",.nat 0),(Q_ "line",.loc 2 .root),(Q_ "rows",.loc 3 .root),(Q_ "k",.nat k),(Q_ "some",.loc 11 .root),(Q_ "words",.lst (strsAV W)),(Q_ "texts",.loc 12 .root),(Q_ "names",.loc 13 .root)] (Z0y x y t w0 p0 w1 p1 w2 p2 SM TX NM)
def LoB4 (g:Cx) (n k:Nat) (x y x' y':Int) (p0 p1 p2:SS) (w0 w1 w2 SM W TX NM:List Str) (t:List Row):Prop:=SR g (n+7) (fun i=>i<11) (scF 713) [(Q_ "source",.loc 0 .root),(Q_ "sheet",.loc 10 .root),(Q_ "tree",.loc 1 .root),(Q_ "root",.nat 0),(Q_ "line",.loc 2 .root),(Q_ "rows",.loc 3 .root),(Q_ "k",.nat k),(Q_ "some",.loc 11 .root),(Q_ "words",.lst (strsAV W)),(Q_ "texts",.loc 12 .root),(Q_ "names",.loc 13 .root)] (stF 713 [1,2] 4) (Z0x x y t w0 p0 w1 p1 w2 p2 SM W) .next [(Q_ "source",.loc 0 .root),(Q_ "sheet",.loc 10 .root),(Q_ "tree",.loc 1 .root),(Q_ "root",.nat 0),(Q_ "line",.loc 2 .root),(Q_ "rows",.loc 3 .root),(Q_ "k",.nat k),(Q_ "some",.loc 11 .root),(Q_ "words",.lst (strsAV W)),(Q_ "texts",.loc 12 .root),(Q_ "names",.loc 13 .root)] (Z0y x' y' t w0 p0 w1 p1 w2 p2 SM TX NM)
omit G n in
theorem lo_shape {W:List Str} {d:Nat} (hd:W.length=1+d) (hd2:d<2):(d=0∧∃ a,W=[a])∨(d=1∧∃ a b,W=[a,b]):=by
 rcases W with _|⟨a,_|⟨b,_|⟨c,W⟩⟩⟩
 ·exact absurd (hd.trans (Nat.add_comm 1 d)) (Nat.succ_ne_zero d).symm
 ·rcases lo_two hd2 with rfl|rfl
  ·exact .inl ⟨rfl,a,rfl⟩
  ·cases hd
 ·rcases lo_two hd2 with rfl|rfl
  ·cases hd
  ·exact .inr ⟨rfl,a,b,rfl⟩
 ·rcases lo_two hd2 with rfl|rfl<;>cases hd
omit G n in
def LoRest (g:Cx) (n k:Nat) (U:Str) (x y:Int) (t:List Row) (es:List El) (e:El) (p0 p1 p2:SS) (w0 w1 w2 SM W:List Str):Prop:=∃ TX NM x' y' t' ats,LoB4 g n k x y x' y' p0 p1 p2 w0 w1 w2 SM W TX NM t∧LoZip g n k x' y' p0 p1 p2 w0 w1 w2 SM W TX NM t t'∧TV t' (es.set k { e with ats:=ats })∧t'.length≤t.length+2∧WordsOk U ats W
theorem lo_rest (X:Orc g n) {k:Nat} {U:Str} (hU:U∈Us) (hat:AtStep g n k U) {t:List Row} {es:List El} {e:El} (tv:TV t es) (he:es[k]?=some e) (h0:e.ats=[]) (hl:t.length<100) {p0 p1 p2:SS} {w0 w1 w2:List Str} {SM W:List Str} {d:Nat} (hd:W.length=1+d) (hd2:d<2) (hWm:∀ w∈W,w∈wLets) (x y:Int):
  LoRest g n k U x y t es e p0 p1 p2 w0 w1 w2 SM W:=by
 have z0:e.ats.length<10:=by rw [h0];exact Nat.le_of_ble_eq_true rfl
 have hll:t.length<900:=Nat.lt_trans hl (by decide)
 have one:∀ x0 y0,W∈allWs→TvR g (n+7) (scF 713) (Z0c k W) (exS (stF 713 [1,2] 4)) (Z2b x y t w0 p0 w1 p1 w2 p2 SM W) true (.src x0 y0::.tree t::Z42 w0 p0 w1 p1 w2 p2 [.txs SM,.txs (W.map txt),.txs [EXCS,EXTS]])→LoRest g n k U x y t es e p0 p1 p2 w0 w1 w2 SM W:=fun x0 y0 hW hT=>by
  unfold LoRest
  obtain ⟨nm,pre,x',y',h1,h2,S⟩:=lo_join' G n X hW hT
  obtain ⟨t',ats',a1,a2,a3,a4⟩:=hat t es e nm (pre++joinT W) tv he hll z0 ((List.mem_cons.mp h1).imp id List.mem_singleton.mp)
  refine ⟨_,_,x',y',t',ats',S,⟨_,.turn (x:=.tup [.str nm,.str (pre++joinT W)]) rfl (.nm2 (k:=Q_ "local") (k':=Q_ "text") (by kernel_rfl)) (a4 x' y' p0 p1 p2 w0 w1 w2 SM W _ _) (.done rfl rfl)⟩,a2,Nat.le_succ_of_le a1,?_⟩
  rw [a3 (by rw [h0];rfl),h0]
  exact lo_pre hU hW h1 h2
 rcases lo_shape hd hd2 with ⟨rfl,a,rfl⟩|⟨rfl,a,b,rfl⟩
 ·exact one x y (mem_allWs1 (hWm a (.head _))) (lo_b1 G n rfl)
 ·have ma:=hWm a (.head _)
  have mb:=hWm b (.tail _ (.head _))
  obtain ⟨d3,x1,y1,h3,C3⟩:=X.take (n+5) 2 x y (by decide) (by decide)
  rcases lo_two h3 with rfl|rfl
  ·exact one x1 y1 (mem_allWs2 ma mb) (lo_b20 G n rfl C3)
  ·obtain ⟨t1,ats1,a1,a2,a3,a4⟩:=hat t es e EXCS (txt a) tv he hll z0 (.inl rfl)
   have e1:ats1=[(EXCS,U,txt a)]:=(a3 (by rw [h0];rfl)).trans (by rw [h0];rfl)
   subst e1
   obtain ⟨t2,ats2,b1,b2,b3,b4⟩:=hat t1 _ _ EXTS (txt b) a2 (List.getElem?_set_self (List.getElem?_eq_some_iff.mp he).1) (by omega) (Nat.le_of_ble_eq_true rfl) (.inr rfl)
   have e2:ats2=[(EXCS,U,txt a),(EXTS,U,txt b)]:=b3 (one_none hU)
   subst e2
   rw [List.set_set] at b2
   unfold LoRest
   exact ⟨_,_,x1,y1,t2,_,.if0 (by kernel_rfl) (lo_b21 G n rfl C3) (lo_no4 G n),⟨_,.turn (x:=.tup [.str EXCS,.str (txt a)]) rfl (.nm2 (k:=Q_ "local") (k':=Q_ "text") (by kernel_rfl)) (a4 x1 y1 p0 p1 p2 w0 w1 w2 SM _ _ _) (.turn (x:=.tup [.str EXTS,.str (txt b)]) rfl (.nm2 (k:=Q_ "local") (k':=Q_ "text") (by kernel_rfl)) (b4 x1 y1 p0 p1 p2 w0 w1 w2 SM _ _ _) (.done rfl rfl))⟩,b2,by omega,.of (List.all_eq_true.mp (List.all_eq_true.mp words_two U hU) _ (mem_allWs2 ma mb))⟩
end
section
theorem lawRel {pw:PW} (h:∀ (i:Nat) (x:SS×List Str),pw[i]?=some x→PsP 3 x.1):∀ k,∃ f,RelS f (lawScN pw k)
|0=>⟨_,rel0⟩
|k+1=>by
  obtain ⟨f,r⟩:=lawRel h k
  refine ⟨_,r.fold (ps:=pwPs pw k) ?_⟩
  unfold pwPs
  cases hx:pw[k]? with
 |some x=>exact (h k x hx).keys
 |none=>exact fun p hp=>nomatch hp
theorem lawKeys {pw:PW} (h:∀ (i:Nat) (x:SS×List Str),pw[i]?=some x→PsP 3 x.1) (k:Nat):(∀ z∈(lawScN pw k).map (·.1),z=Str.ofString "xsl"∨z∈wLets)∧(lawScN pw k).length≤9:=by
 obtain ⟨f,r⟩:=lawRel h k
 refine ⟨fun z hz=>?_,by have:=r.len.1;omega⟩
 have:=r.kg z hz
 revert z
 have hU:∀ z∈U4,z=Str.ofString "xsl"∨z∈wLets:=by decide +kernel
 exact fun z _ hz=>hU z hz
theorem elU_Us (u:Str):elU u∈Us:=by
 unfold elU
 cases strB u XSLTU with
|true=>exact .head _
|false=>exact .tail _ (.head _)
theorem elU_0:elU XSLTU=Str.ofString "":=by decide +kernel
theorem elU_1 {u:Str} (h:u∈Str.ofString ""::uris3):elU u=XSLTU:=by
 have:∀ u∈Str.ofString ""::uris3,elU u=XSLTU:=by decide +kernel
 exact this u h
theorem psp3 {p0 p1 p2:SS} {w0 w1 w2:List Str} (g0:PsP 3 p0) (g1:PsP 3 p1) (g2:PsP 3 p2):∀ (i:Nat) (x:SS×List Str),[(p0,w0),(p1,w1),(p2,w2)][i]?=some x→PsP 3 x.1:=by
 intro i x h
 rcases i with _|_|_|i
 ·cases h;exact g0
 ·cases h;exact g1
 ·cases h;exact g2
 ·simp at h
theorem few3 {p0 p1 p2:SS} {w0 w1 w2:List Str} (g0:PsP 3 p0) (g1:PsP 3 p1) (g2:PsP 3 p2) (l0:w0.length≤2) (l1:w1.length≤2) (l2:w2.length≤2):FewPW [(p0,w0),(p1,w1),(p2,w2)]:=by
 refine ⟨by simp,fun x hx=>?_,fun x hx=>?_⟩
 ·obtain ⟨i,hi⟩:=List.mem_iff_getElem?.mp hx
  have:=(psp3 (w0:=w0) (w1:=w1) (w2:=w2) g0 g1 g2 i x hi).len;omega
 ·simp at hx
  rcases hx with e|e|e<;>subst e<;>dsimp only<;>omega
theorem sheet3 {u1 u2:Str} {p0 p1 p2:SS} {w0 w1 w2:List Str} {A0 A1 A2:List (Str×Str×Str)} (g0:PsP 3 p0) (g1:PsP 3 p1) (g2:PsP 3 p2) (l0:w0.length≤2) (l1:w1.length≤2) (l2:w2.length≤2)
  (k0:WordsOk (elU XSLTU) A0 w0) (k1:WordsOk (elU u1) A1 w1) (k2:WordsOk (elU u2) A2 w2)
  (m0:∀ w∈w0,w∈(lawScN [(p0,w0),(p1,w1),(p2,w2)] 1).map (·.1)∧w≠Str.ofString "xsl") (m1:∀ w∈w1,w∈(lawScN [(p0,w0),(p1,w1),(p2,w2)] 2).map (·.1)∧w≠Str.ofString "xsl") (m2:∀ w∈w2,w∈(lawScN [(p0,w0),(p1,w1),(p2,w2)] 3).map (·.1)∧w≠Str.ofString "xsl"):
  Sheet [⟨XSLTU,p0,A0⟩,⟨u1,p1,A1⟩,⟨u2,p2,A2⟩] [(p0,w0),(p1,w1),(p2,w2)]:=by
 refine ⟨rfl,rfl,fun i e he=>?_⟩
 rcases i with _|_|_|i
 ·cases he;exact ⟨_,rfl,rfl,g0,k0,l0,m0⟩
 ·cases he;exact ⟨_,rfl,rfl,g1,k1,l1,m1⟩
 ·cases he;exact ⟨_,rfl,rfl,g2,k2,l2,m2⟩
 ·simp at he
end
noncomputable abbrev Z4f (a:List Str→List Str) (b:SS) (c:List Str→List Str) (d:SS) (e:List Str→List Str) (f:SS) (r:Hp):Hp:=.list [L5,.lst (strsAV (a []))]::.prs b::.list [L7,.lst (strsAV (c []))]::.prs d::.list [L9,.lst (strsAV (e []))]::.prs f::.list [L1,.nat 0,L2,L3]::r
noncomputable abbrev Z1i (a b:Int) (c:List Row) (d e f:SS):Hp:=(.src a b::.tree c::Z4b (.list [L5,.lst (strsAV [])]::.prs d::Z4e e [.list [L9,.lst (strsAV [])],.prs f,.list [L1,.nat 0,L2,L3]]))
section
end
theorem left_a {a:Nat} (h:a≤20):a<100:=by omega
theorem left_b {a b:Nat} (h:a≤20) (h1:b≤a+2):b<100:=by omega
theorem left_c {a b c:Nat} (h:a≤20) (h1:b≤a+2) (h2:c≤b+2):c<100:=by omega
theorem left_z {a b c d:Nat} (h:a≤20) (h1:b≤a+2) (h2:c≤b+2) (h3:d≤c+2):d≤30:=by omega
def LoS (g:Cx) (n k:Nat) (t t':List Row) (p0 p1 p2:SS) (f0 f1 f2:List Str→List Str) (W:List Str) (x y x' y':Int):Prop:=SsR g (n+7) (fun i=>i<11) (scF 713) (setL "k" (.nat k) Z12) (ssF 713 [1]) (.src x y::.tree t::Z4b (Z4f f0 p0 f1 p1 f2 p2 [])) .next Z12 (.src x' y'::.tree t'::Z4b [.list [L5,.lst (strsAV (f0 W))],.prs p0,.list [L7,.lst (strsAV (f1 W))],.prs p1,.list [L9,.lst (strsAV (f2 W))],.prs p2,.list [L1,.nat 0,L2,L3]])
def LoGen (g:Cx) (n k:Nat) (U:Str) (t:List Row) (es:List El) (e:El) (p0 p1 p2:SS) (f0 f1 f2:List Str→List Str) (x y:Int):Prop:=∃ x' y' t' ats W,TV t' (es.set k { e with ats:=ats })∧t'.length≤t.length+2∧WordsOk U ats W∧W.length≤2∧(∀ w∈W,w∈(lawScN [(p0,f0 []),(p1,f1 []),(p2,f2 [])] (k+1)).map (·.1)∧w≠Q_ "xsl") ∧
   LoS g n k t t' p0 p1 p2 f0 f1 f2 W x y x' y'
def LeftG (g:Cx) (n:Nat) (u1 u2:Str) (p0 p1 p2:SS) (R:List Row) (x y:Int):Prop:=∃ x' y' R' A0 A1 A2 w0 w1 w2,TV R' [⟨XSLTU,p0,A0⟩,⟨u1,p1,A1⟩,⟨u2,p2,A2⟩]∧R'.length≤30∧Sheet [⟨XSLTU,p0,A0⟩,⟨u1,p1,A1⟩,⟨u2,p2,A2⟩] [(p0,w0),(p1,w1),(p2,w2)]∧CR g (n+8) 713 [L0,L10] (Z1i x y R p0 p1 p2) .none (.src x' y'::.tree R'::Z4b [.list [L5,.lst (strsAV w0)],.prs p0,.list [L7,.lst (strsAV w1)],.prs p1,.list [L9,.lst (strsAV w2)],.prs p2,.list [L1,.nat 0,L2,L3]])
section
variable {g:Cx} (G:Gl g TT) (n:Nat)
include G
theorem lo_gen (X:Orc g n) {k:Nat} {U:Str} (hU:U∈Us) (hat:AtStep g n k U) {f0 f1 f2:List Str→List Str} (hX:SetStep g n k f0 f1 f2) {t:List Row} {es:List El} {e:El} (tv:TV t es) (he:es[k]?=some e) (h0:e.ats=[]) (hl:t.length<100) {p0 p1 p2:SS} (hk:k+1≤3) (fw:FewPW [(p0,f0 []),(p1,f1 []),(p2,f2 [])])
  (hkeys:(∀ z∈(lawScN [(p0,f0 []),(p1,f1 []),(p2,f2 [])] (k+1)).map (·.1),z=Q_ "xsl"∨z∈wLets)∧(lawScN [(p0,f0 []),(p1,f1 []),(p2,f2 [])] (k+1)).length≤9) (x y:Int):LoGen g n k U t es e p0 p1 p2 f0 f1 f2 x y:=by
 obtain ⟨SM,hM⟩:∃ SM,someS (lawScN [(p0,f0 []),(p1,f1 []),(p2,f2 [])] (k+1))=SM:=⟨_,rfl⟩
 have hn:(lawScN [(p0,f0 []),(p1,f1 []),(p2,f2 [])] (k+1)).length<10:=Nat.lt_succ_of_le hkeys.2
 have hm:∀ w∈SM,w∈(lawScN [(p0,f0 []),(p1,f1 []),(p2,f2 [])] (k+1)).map (·.1)∧w≠Q_ "xsl":=fun w hw=>by
  rw [← hM] at hw
  have z:=List.mem_filter.mp ((sortS_perm _).mem_iff.mp hw)
  exact ⟨z.1,fun e=>by rw [e,strB_self] at z;exact nomatch z.2⟩
 have hlen:SM.length<10:=by
  rw [← hM,someS,(sortS_perm _).length_eq]
  exact Nat.lt_of_le_of_lt (List.length_filter_le ..) (by rw [List.length_map];exact hn)
 have skip:∀ x' y',SR g (n+7) (fun i=>i<11) (scF 713) (Z0n k) (stF 713 [1] 2) (.src x y::.tree t::Z4b (Z4f f0 p0 f1 p1 f2 p2 [.txs SM])) .next (Z0n k) (.src x' y'::.tree t::Z4b (Z4f f0 p0 f1 p1 f2 p2 [.txs SM]))→LoGen g n k U t es e p0 p1 p2 f0 f1 f2 x y:=fun x' y' S=>by
  unfold LoGen
  refine ⟨x',y',t,[],[],?_,Nat.le_add_right ..,.of (List.all_eq_true.mp words_none U hU),Nat.zero_le _,(fun _ h=>nomatch h),lo_turnM G n hM hk fw hn S⟩
  have z0:({ e with ats:=[] }:El)=e:=by rw [← h0]
  rw [z0,show es.set k e=es by rw [← (List.getElem?_eq_some_iff.mp he).2];exact List.set_getElem_self (List.getElem?_eq_some_iff.mp he).1]
  exact tv
 cases SM with
|nil=>exact skip x y (.if0 (by kernel_rfl) (lo_a1 G n) (lo_no2 G n))
|cons q qs=>
  obtain ⟨d,x1,y1,_,C⟩:=X.take (n+5) 3 x y (by decide) (by decide)
  cases d with
 |zero=>exact skip x1 y1 (.if0 (by kernel_rfl) (lo_a2f G n C rfl) (lo_no2 G n))
 |succ d=>
   obtain ⟨d2,x2,y2,hd2,C2⟩:=X.take (n+5) 2 x1 y1 (by decide) (by decide)
   obtain ⟨W,x3,y3,hW,hWm,CW⟩:=lo_words G n X (SM:=q::qs) (x:=x2) (y:=y2) (t:=t) (p0:=p0) (p1:=p1) (p2:=p2) (w0:=f0 []) (w1:=f1 []) (w2:=f2 []) (Nat.zero_lt_succ _) hlen hd2
   obtain ⟨TX,NM,x4,y4,t',ats,S4,S5,tv',hl',hwo⟩:=lo_rest G n X hU hat tv he h0 hl (p0:=p0) (p1:=p1) (p2:=p2) (w0:=f0 W) (w1:=f1 W) (w2:=f2 W) (SM:=q::qs) hW hd2 (fun w hw=>(hkeys.1 w (hm w (hWm w hw)).1).resolve_left (hm w (hWm w hw)).2) x3 y3
   have hW2:W.length≤2:=by omega
   unfold LoGen
   exact ⟨x4,y4,t',ats,W,tv',hl',hwo,hW2,fun w hw=>hm w (hWm w hw),lo_turnM G n hM hk fw hn (.if1 (by kernel_rfl) (lo_a2t G n C (decide_eq_true (Int.ofNat_lt.mpr (Nat.zero_lt_succ d)))) (lo_body G n C2 (Nat.ble_eq_true_of_le (Nat.le_trans (Nat.add_le_add_left (Nat.le_of_lt hd2) 1) (Nat.le_of_ble_eq_true rfl))) CW (hX x3 y3 t p0 p1 p2 (q::qs) W) hW2 S4 S5))⟩
theorem lo0_cr {x y x1 y1:Int} {t t1:List Row} {p0 p1 p2:SS} {w0 w1 w2:List Str} {v0 v1 v2:List Str} (h:(∃ kk,LoR g (n+7) (fun i=>i<11) (scF 713) (forT (stF 713 [] 1)) (ssF 713 [1]) (.rng 0 3) .next Z12 (Z0h x1 y1 t1 v0 p0 v1 p1 v2 p2) kk 0 Z12 (Z0h x y t w0 p0 w1 p1 w2 p2))):CR g (n+8) 713 [L0,L10] (Z0h x y t w0 p0 w1 p1 w2 p2) (.none) ((Z0h x1 y1 t1 v0 p0 v1 p1 v2 p2)):=
 .gz G [.c,.loop .next Z12 (Z0h x1 y1 t1 v0 p0 v1 p1 v2 p2)] (.c h (.c trivial .n))
theorem left_cr (X:Orc g n) {u1 u2:Str} {p0 p1 p2:SS} {R:List Row} (hu1:u1∈Q_ ""::uris3) (hu2:u2∈Q_ ""::uris3) (tv:TV R [⟨XSLTU,p0,[]⟩,⟨u1,p1,[]⟩,⟨u2,p2,[]⟩]) (hR:R.length≤20) (g0:PsP 3 p0) (g1:PsP 3 p1) (g2:PsP 3 p2) (x y:Int):LeftG g n u1 u2 p0 p1 p2 R x y:=by
 obtain ⟨x1,y1,R1,A0,w0,tv1,hR1,k0,l0,m0,s0⟩:=lo_gen G n X (elU_Us XSLTU) (elU_0▸lo_ats0 G n) (lo_sets0 G n (w1:=[]) (w2:=[])) tv rfl rfl (left_a hR) (by decide) (few3 g0 g1 g2 (Nat.zero_le _) (Nat.zero_le _) (Nat.zero_le _)) (lawKeys (psp3 g0 g1 g2) _) x y
 obtain ⟨x2,y2,R2,A1,w1,tv2,hR2,k1,l1,m1,s1⟩:=lo_gen G n X (elU_Us u1) (elU_1 hu1▸lo_ats1 G n) (lo_sets1 G n (w0:=w0) (w2:=[])) tv1 rfl rfl (left_b hR hR1) (by decide) (few3 g0 g1 g2 l0 (Nat.zero_le _) (Nat.zero_le _)) (lawKeys (psp3 g0 g1 g2) _) x1 y1
 obtain ⟨x3,y3,R3,A2,w2,tv3,hR3,k2,l2,m2,s2⟩:=lo_gen G n X (elU_Us u2) (elU_1 hu2▸lo_ats2 G n) (lo_sets2 G n (w0:=w0) (w1:=w1)) tv2 rfl rfl (left_c hR hR1 hR2) (by decide) (few3 g0 g1 g2 l0 l1 (Nat.zero_le _)) (lawKeys (psp3 g0 g1 g2) _) x2 y2
 have z:R3.length≤30:=left_z hR hR1 hR2 hR3
 unfold LeftG
 exact ⟨x3,y3,R3,A0,A1,A2,w0,w1,w2,tv3,z,sheet3 g0 g1 g2 l0 l1 l2 k0 k1 k2 m0 m1 m2,lo0_cr G n ⟨_,.turn (srcAt_rng (by decide)) (.nm (k:=Q_ "k") (by kernel_rfl)) s0 (.turn (srcAt_rng (by decide)) (.nm (k:=Q_ "k") (by kernel_rfl)) s1 (.turn (srcAt_rng (by decide)) (.nm (k:=Q_ "k") (by kernel_rfl)) s2 (.done rfl srcAt_rngE)))⟩⟩
end
section
noncomputable def lawD:Option (Arguments×List Stmt×Scope):=pick [55] pyBody
noncomputable def lawSc:Scope:=(lawD.map (·.2.2)).getD ⟨.module,[],false,false,[]⟩
noncomputable def lawSs (p:List Nat):List Stmt:=ssIn ((lawD.map (·.2.1)).getD []) p
noncomputable def lawSt (p:List Nat) (i:Nat):Stmt:=(lawSs p).getD i noS
noncomputable def part (i k:Nat) (ss:List Stmt):List Stmt:=(ss.drop i).take k
noncomputable def NOB:Str:=Str.ofString "nobody"
structure Refuse (R:List Row) (es:List El) (e:El):Prop where
 tv:TV R es
 few:Few es
 len:es.length=3
 wd0:∀ i e,es[i]?=some e→i<1→WdOk es i e
 at1:es[1]?=some e
 nob:attrOf EXCS (elU e.uri) e.ats=some NOB
 keys:look NOB (scopeN es 3)=none
 ext:(extS e).cps.toList.length≤200
theorem nodup_lenN:∀ (l U:List Nat),l.Nodup→(∀ x∈l,x∈U)→l.length≤U.length
|[],U,_,_=>Nat.zero_le _
|x::l,U,h,hm=>by
  rw [List.nodup_cons] at h
  have hx:=hm x (.head _)
  have:=nodup_lenN l (U.erase x) h.2 fun y hy=>(List.mem_erase_of_ne (fun e=>h.1 (by rw [← e];exact hy))).mpr (hm y (.tail _ hy))
  rw [List.length_erase_of_mem hx] at this
  have h1:=List.length_pos_of_mem hx
  simp only [List.length_cons];omega
theorem ats_len {rows:List Row} {own:Nat} {at_:List Nat} {ats:List (Str×Str×Str)} (h:AtOk rows own at_ ats):ats.length≤rows.length:=by
 rw [← h.1]
 have:=nodup_lenN at_ (List.range rows.length) h.2.1 fun x hx=>by
  obtain ⟨i,hi⟩:=List.mem_iff_getElem?.mp hx
  obtain ⟨w,_,hw,_⟩:=h.2.2 i x hi
  exact List.mem_range.mpr (List.getElem?_eq_some_iff.mp hw).1
 rwa [List.length_range] at this
theorem nodePs_ats {es:List El} {i:Nat} {e:El} {A:List (Str×Str×Str)} (he:es[i]?=some e) (j:Nat):nodePs (es.set i { e with ats:=A }) j=nodePs es j:=by
 cases j with
|zero=>rfl
|succ j=>
  show ((es.set i { e with ats:=A })[j]?.map (·.ps)).getD []=(es[j]?.map (·.ps)).getD []
  by_cases hij:i=j
  ·subst hij
   rw [List.getElem?_set_self (List.getElem?_eq_some_iff.mp he).1,he];rfl
  ·rw [List.getElem?_set_ne hij]
theorem scopeN_ats {es:List El} {i:Nat} {e:El} {A:List (Str×Str×Str)} (he:es[i]?=some e):∀ j,scopeN (es.set i { e with ats:=A }) j=scopeN es j
|0=>rfl
|j+1=>by
  show (nodePs (es.set i { e with ats:=A }) j).foldl scStep (scopeN (es.set i { e with ats:=A }) j)=_
  rw [nodePs_ats he,scopeN_ats he j];rfl
end
noncomputable abbrev Z0b:Vars:=[("source",L0),("sheet",L10),("tree",L1),("root",.nat 0),("line",L2),("rows",L3),("aliases",L11)]
noncomputable abbrev Z04 (a b:Int) (c:List Row) (d:List Str) (e:SS) (f:List Str) (i:SS) (j:List Str) (k l:SS):Hp:=(.src a b::.tree c::Z42 d e f i j k [.dss l])
noncomputable abbrev Z1p:List Str:=["source","sheet","tree","root","line","rows","aliases"]
noncomputable abbrev Z2u (a b:Int) (c:List Row) (d:List Str) (e:SS) (f:List Str) (i:SS) (j:List Str) (k:SS):Hp:=(.src a b::.tree c::Z42 d e f i j k [.dss []])
noncomputable abbrev Z2l:Vars:=[("tree",L0),("line",L1)]
noncomputable abbrev Z1z (a:List Row):Hp:=[.tree a,.list [.nat 1,.nat 2,.nat 3]]
section
variable {g:Cx} (G:Gl g TT) (n:Nat)
include G
theorem law_u0 {x y:Int} {t:List Row} {p0 p1 p2:SS} {w0 w1 w2:List Str} {al:SS} {u:Str} {d:Nat} {x1 y1:Int} (hC:CR g (n+10) 686 [L0,.nat 3] [.src x y] (.nat d) [.src x1 y1]) (h0:(Int.ofNat d==0)=false):SsR g (n+10) (fun i=>i<12) lawSc (setL "uri" (.str u) Z0b) (lawSs [5]) (Z04 x y t w0 p0 w1 p1 w2 p2 al) .next (Z0b) ((Z04 x1 y1 t w0 p0 w1 p1 w2 p2 al)):=
 .gz G [.call [0] (.nat d) [.src x1 y1],.b false,.gc Z1c Z1p] (.c hC (.c h0 .n))
theorem law_u1 {x y:Int} {t:List Row} {p0 p1 p2:SS} {w0 w1 w2:List Str} {al:SS} {u v:Str} {x1 y1 x2 y2:Int} (hC:CR g (n+10) 686 [L0,.nat 3] [.src x y] (.nat 0) [.src x1 y1]) (hO:CR g (n+10) 693 [L0,L1] [.src x1 y1,.txs ["u:9","u:1",XSLTU]] (.str v) [.src x2 y2,.txs ["u:9","u:1",XSLTU]]) (hl:Nat.ble al.length 500=true):SsR g (n+10) (fun i=>i<12) lawSc (setL "uri" (.str u) Z0b) (lawSs [5]) (Z04 x y t w0 p0 w1 p1 w2 p2 al) .next (Z0b) ((.src x2 y2::.tree t::Z42 w0 p0 w1 p1 w2 p2 [.dss (setL u v al)])):=
 .gz G [.call [0] (.nat 0) [.src x1 y1],.c,.s,.k 1,.call [0,12] (.str v) [.src x2 y2,.txs ["u:9","u:1",XSLTU]],.o,.gc Z1c Z1p] (.c hC (.c hO (.c hl .n)))
theorem law_m1 {x y:Int} {t:List Row} {p0 p1 p2:SS} {w0 w1 w2:List Str} {al:SS} {D:SS} (hD:CR g (n+10) 723 [L0,.nat 1,L7] (Z1b w0 p0 w1 p1 w2 p2 al) L8 (Z0m w0 p0 w1 p1 w2 p2 al D)) (hR:CR g (n+10) 735 [L0,.nat 1,L2,L1] (Z28 t al D) (.bool true) (Z28 t al D)):SsR g (n+10) (fun i=>i<12) lawSc (setL "many" (.nat 1) Z0b) (lawSs [7]) (Z04 x y t w0 p0 w1 p1 w2 p2 al) .next (Z0b) ((Z04 x y t w0 p0 w1 p1 w2 p2 al)):=
 .gz G [.c,.call [3,4,5,6,7,8,9,11] L8 (Z0m w0 p0 w1 p1 w2 p2 al D),.call [1,11,12] (.bool true) (Z28 t al D),.c,.gc Z1c Z1p] (.c hD (.c hR .n))
theorem law_m2 {x y:Int} {t:List Row} {p0 p1 p2:SS} {w0 w1 w2:List Str} {al:SS} {D:SS} (hD:CR g (n+10) 723 [L0,.nat 2,L7] (Z1b w0 p0 w1 p1 w2 p2 al) L8 (Z0m w0 p0 w1 p1 w2 p2 al D)) (hR:CR g (n+10) 735 [L0,.nat 2,L2,L1] (Z28 t al D) (.bool true) (Z28 t al D)):SsR g (n+10) (fun i=>i<12) lawSc (setL "many" (.nat 2) Z0b) (lawSs [7]) (Z04 x y t w0 p0 w1 p1 w2 p2 al) .next (Z0b) ((Z04 x y t w0 p0 w1 p1 w2 p2 al)):=
 .gz G [.c,.call [3,4,5,6,7,8,9,11] L8 (Z0m w0 p0 w1 p1 w2 p2 al D),.call [1,11,12] (.bool true) (Z28 t al D),.c,.gc Z1c Z1p] (.c hD (.c hR .n))
theorem law_m3 {x y:Int} {t:List Row} {p0 p1 p2:SS} {w0 w1 w2:List Str} {al:SS} {D:SS} (hD:CR g (n+10) 723 [L0,.nat 3,L7] (Z1b w0 p0 w1 p1 w2 p2 al) L8 (Z0m w0 p0 w1 p1 w2 p2 al D)) (hR:CR g (n+10) 735 [L0,.nat 3,L2,L1] (Z28 t al D) (.bool true) (Z28 t al D)):SsR g (n+10) (fun i=>i<12) lawSc (setL "many" (.nat 3) Z0b) (lawSs [7]) (Z04 x y t w0 p0 w1 p1 w2 p2 al) .next (Z0b) ((Z04 x y t w0 p0 w1 p1 w2 p2 al)):=
 .gz G [.c,.call [3,4,5,6,7,8,9,11] L8 (Z0m w0 p0 w1 p1 w2 p2 al D),.call [1,11,12] (.bool true) (Z28 t al D),.c,.gc Z1c Z1p] (.c hD (.c hR .n))
theorem law_p1 {x y x1 y1 x2 y2 x3 y3:Int} {t t1 t2:List Row} {p0 p1 p2:SS} {w0 w1 w2:List Str} {al:SS} {gn:List Str} {v:Nat} (hA:CR g (n+10) 701 [L0] [.src x y] L10 (Z1i x1 y1 t p0 p1 p2)) (hB:CR g (n+10) 713 [L0,L10] (Z1i x1 y1 t p0 p1 p2) .none (Z0h x2 y2 t1 w0 p0 w1 p1 w2 p2)) (h5:(∃ kk,LoR g (n+10) (fun i=>i<12) lawSc (forT (lawSt [] 5)) (lawSs [5]) (.lst (.lst [.str "u:1",.str "u:2",.str "u:3"])) .next Z0b (Z04 x3 y3 t1 w0 p0 w1 p1 w2 p2 al) kk 0 Z0b (Z2u x2 y2 t1 w0 p0 w1 p1 w2 p2))) (hE:CR g (n+10) 193 [L0,.nat 3] [.tree t1] L1 [.tree t1,.txs gn]) (hG:CR g (n+10) 718 [L0,.nat 3] (Z18 w0 p0 w1 p1 w2 p2) L7 (Z20 w0 p0 w1 p1 w2 p2 gn)) (h7:(∃ kk,LoR g (n+10) (fun i=>i<12) lawSc (forT (lawSt [] 7)) (lawSs [7]) (.rng 1 3) .next Z0b (Z04 x3 y3 t1 w0 p0 w1 p1 w2 p2 al) kk 0 Z0b (Z04 x3 y3 t1 w0 p0 w1 p1 w2 p2 al))) (h8:CR g (n+10) 475 [L0,.nat 2,.str "xsl:exclude-result-prefixes",.str XSLTU,.str EXCS,.str NOB] [.tree t1] (.nat v) [.tree t2]):SsR g (n+10) (fun i=>i<0) lawSc [("source",L0)] (part 1 8 (lawSs [])) [.src x y] .next (Z2l) ((Z1z t2)):=
 .gz G [.call [0] L10 (Z2y x1 y1 t p0 p1 p2),.call [0,1,2,3,4,5,6,7,8,9,10] (.none) (Z0h x2 y2 t1 w0 p0 w1 p1 w2 p2),.s,.k 4,.loop .next Z0b (Z04 x3 y3 t1 w0 p0 w1 p1 w2 p2 al),.call [1] L1 [.tree t1,.txs gn],.call [3,4,5,6,7,8,9] L7 (Z20 w0 p0 w1 p1 w2 p2 gn),.b true,.c,.gc Z1c Z1p,.c,.c,.loop .next Z0b (Z04 x3 y3 t1 w0 p0 w1 p1 w2 p2 al),.c,.call [1] (.nat v) [.tree t2],.gc [1,2] ["tree","line"]] (.c hA (.c hB (.c h5 (.c (VIn.frozen ["u:1","u:2","u:3"]:SrcIn (fun i=>i<12) (Src.lst (AV.lst [AV.str (Q_ "u:1"),AV.str (Q_ "u:2"),AV.str (Q_ "u:3")]))) (.c hE (.c hG (.c (.same (.inl ⟨gn,rfl,rfl⟩) rfl:EqL (strsAV gn) (strsAV gn) true) (.c h7 (.c trivial (.c h8 .n))))))))))
end
def AlOk (k:Nat) (al:SS):Prop:=al.length≤k∧∀ z u,look z al=some u→u≠Q_ ""
def Law1 (g:Cx) (n:Nat) (x y:Int):Prop:=∃ R es e,Refuse R es e∧SsR g (n+10) (fun i=>i<0) lawSc [("source",L0)] (part 1 8 (lawSs [])) [.src x y] .next Z2l [.tree R,.list [.nat 1,.nat 2,.nat 3]]
def UStep (g:Cx) (n k:Nat) (u:Str) (x y:Int) (t:List Row) (p0 p1 p2:SS) (w0 w1 w2:List Str) (al:SS):Prop:=∃ al' x' y',AlOk (k+1) al'∧SsR g (n+10) (fun i=>i<12) lawSc (setL "uri" (.str u) Z0b) (lawSs [5]) (Z04 x y t w0 p0 w1 p1 w2 p2 al) .next Z0b (.src x' y'::.tree t::Z42 w0 p0 w1 p1 w2 p2 [.dss al'])
def ULoop (g:Cx) (n:Nat) (x2 y2:Int) (t1:List Row) (p0 p1 p2:SS) (w0 w1 w2:List Str):Prop:=∃ x3 y3 al,AlOk 3 al∧(∃ kk,LoR g (n+10) (fun i=>i<12) lawSc (forT (lawSt [] 5)) (lawSs [5]) (.lst (.lst [.str "u:1",.str "u:2",.str "u:3"])) .next Z0b (.src x3 y3::.tree t1::Z42 w0 p0 w1 p1 w2 p2 [.dss al]) kk 0 Z0b (Z2u x2 y2 t1 w0 p0 w1 p1 w2 p2))
section
variable {g:Cx} (G:Gl g TT) (n:Nat)
include G
theorem law_ustep (X:Orc g n) {k:Nat} {u:Str} {t:List Row} {p0 p1 p2:SS} {w0 w1 w2:List Str} {al:SS} (ha:AlOk k al) (hk:k<10) (x y:Int):UStep g n k u x y t p0 p1 p2 w0 w1 w2 al:=by
 obtain ⟨d,x1,y1,_,C⟩:=X.take (n+8) 3 x y (by decide) (by decide)
 cases d with
|succ d=>exact ⟨al,x1,y1,⟨Nat.le_succ_of_le ha.1,ha.2⟩,law_u0 G n C rfl⟩
|zero=>
  obtain ⟨v,x2,y2,hv,C'⟩:=one_cr G (n+7) (X.up 7) (l:=[Q_ "u:9",Q_ "u:1",XSLTU]) (by decide) (by decide) x1 y1
  refine ⟨setL u v al,x2,y2,⟨Nat.le_trans (setL_len ..) (Nat.succ_le_succ ha.1),fun z w e=>?_⟩,law_u1 G n C C' (Nat.ble_eq_true_of_le (Nat.le_trans ha.1 (Nat.le_trans (Nat.le_of_lt hk) (by decide))))⟩
  rw [look_setL] at e
  split at e
  ·rw [← Option.some.inj e]
   have hL:∀ z∈[Q_ "u:9",Q_ "u:1",XSLTU],z≠Q_ "":=by decide +kernel
   exact hL v hv
  ·exact ha.2 z w e
theorem law_uloop (X:Orc g n) {t:List Row} {p0 p1 p2:SS} {w0 w1 w2:List Str} (x y:Int):ULoop g n x y t p0 p1 p2 w0 w1 w2:=by
 obtain ⟨a1,x1,y1,h1,s1⟩:=law_ustep G n X (k:=0) (u:=Q_ "u:1") (al:=[]) ⟨Nat.zero_le _,fun _ _ e=>nomatch e⟩ (by decide) x y
 obtain ⟨a2,x2,y2,h2,s2⟩:=law_ustep G n X (k:=1) (u:=Q_ "u:2") h1 (by decide) x1 y1
 obtain ⟨a3,x3,y3,h3,s3⟩:=law_ustep G n X (k:=2) (u:=Q_ "u:3") h2 (by decide) x2 y2
 exact ⟨x3,y3,a3,h3,_,.turn rfl (.nm (k:=Q_ "uri") (by kernel_rfl)) s1 (.turn rfl (.nm (k:=Q_ "uri") (by kernel_rfl)) s2 (.turn rfl (.nm (k:=Q_ "uri") (by kernel_rfl)) s3 (.done rfl rfl)))⟩
omit G in
theorem goneLen {es:List El} {pw:PW} (H:Sheet es pw) {k:Nat} (hk:k≤3):(goneN es (k+1)).length≤1000:=by
 rw [H.gone k hk];exact Nat.le_trans (lawGoneN_len H.fewPW k) (by omega)
theorem law_mm (X:Orc g n) {m:Nat} (h0:0<m) (h3:m≤3) {t:List Row} {p0 p1 p2:SS} {w0 w1 w2:List Str} {es:List El} {al:SS} (tv:TV t es) (H:Sheet es [(p0,w0),(p1,w1),(p2,w2)]) (ha:AlOk 3 al):CR g (n+10) 723 [L0,.nat m,L7] (Z1b w0 p0 w1 p1 w2 p2 al) L8 (Z41 w0 p0 w1 p1 w2 p2 [.dss al,.prs ((keptP (lawScN [(p0,w0),(p1,w1),(p2,w2)] m) (lawGoneN [(p0,w0),(p1,w1),(p2,w2)] m)).map fun p=>(p.1,(look p.2 al).getD p.2))])∧CR g (n+10) 735 [L0,.nat m,L2,L1] [.tree t,.dss al,.prs ((keptP (lawScN [(p0,w0),(p1,w1),(p2,w2)] m) (lawGoneN [(p0,w0),(p1,w1),(p2,w2)] m)).map fun p=>(p.1,(look p.2 al).getD p.2))] (.bool true) [.tree t,.dss al,.prs ((keptP (lawScN [(p0,w0),(p1,w1),(p2,w2)] m) (lawGoneN [(p0,w0),(p1,w1),(p2,w2)] m)).map fun p=>(p.1,(look p.2 al).getD p.2))]:=by
 have r:=(H.rel m h3).len
 refine ⟨ldue_cr G (n+2) h0 h3 H.fewPW (H.hb h3) (Nat.lt_of_le_of_lt r.1 (by decide)) rfl,right_cr G n X tv H.few (by rw [H.le];exact h3) (fun i e he _=>H.wd he) (goneLen H h3) (Nat.lt_of_le_of_lt r.2 (by decide)) ?_ (H.due h3 ha.2)⟩
 rw [H.gone m h3]
 exact H.told h3 _ al
theorem law_mloop (X:Orc g n) {t1:List Row} {p0 p1 p2:SS} {w0 w1 w2:List Str} {es:List El} {al:SS} (tv:TV t1 es) (H:Sheet es [(p0,w0),(p1,w1),(p2,w2)]) (ha:AlOk 3 al) (x3 y3:Int):(∃ kk,LoR g (n+10) (fun i=>i<12) lawSc (forT (lawSt [] 7)) (lawSs [7]) (.rng 1 3) .next Z0b (Z04 x3 y3 t1 w0 p0 w1 p1 w2 p2 al) kk 0 Z0b (Z04 x3 y3 t1 w0 p0 w1 p1 w2 p2 al)):=by
 have nm:∀ {i:Nat} {vs a},AsR g (n+10) lawSc (forT (lawSt [] 7)) (.nat i) vs a (setL "many" (.nat i) vs) a:=.nm (k:=Q_ "many") (by kernel_rfl)
 have z1:=law_mm G n X (m:=1) (by decide) (by decide) tv H ha
 have z2:=law_mm G n X (m:=2) (by decide) (by decide) tv H ha
 have z3:=law_mm G n X (m:=3) (by decide) (by decide) tv H ha
 exact ⟨_,.turn rfl nm (law_m1 G n z1.1 z1.2) (.turn rfl nm (law_m2 G n z2.1 z2.2) (.turn rfl nm (law_m3 G n z3.1 z3.2) (.done rfl rfl)))⟩
omit G in
theorem refuse_of {R':List Row} {u1 u2:Str} {p0 p1 p2:SS} {w0 w1 w2:List Str} {A0 A1 A2 ats:List (Str×Str×Str)} (hu1:u1∈Q_ ""::uris3) (H:Sheet [⟨XSLTU,p0,A0⟩,⟨u1,p1,A1⟩,⟨u2,p2,A2⟩] [(p0,w0),(p1,w1),(p2,w2)]) (tv:TV R' ([⟨XSLTU,p0,A0⟩,⟨u1,p1,A1⟩,⟨u2,p2,A2⟩].set 1 ⟨u1,p1,ats⟩)) (h1:attrOf EXCS XSLTU ats=some NOB) (h2:∀ l u',strB EXCS l=false→attrOf l u' ats=attrOf l u' A1):Refuse R' ([⟨XSLTU,p0,A0⟩,⟨u1,p1,A1⟩,⟨u2,p2,A2⟩].set 1 ⟨u1,p1,ats⟩) ⟨u1,p1,ats⟩:=by
 have he1:([⟨XSLTU,p0,A0⟩,⟨u1,p1,A1⟩,⟨u2,p2,A2⟩]:List El)[1]?=some ⟨u1,p1,A1⟩:=rfl
 have sc:=scopeN_ats (A:=ats) he1
 refine ⟨tv,⟨(Nat.le_of_ble_eq_true rfl:3≤10),fun e he=>?_⟩,rfl,fun i e he hi=>?_,rfl,by rw [show elU u1=XSLTU from elU_1 hu1];exact h1,?_,?_⟩
 ·have fe:=H.few.2
  rcases List.mem_cons.mp he with rfl|he
  ·exact fe _ (.head _)
  ·rcases List.mem_cons.mp he with rfl|he
   ·exact fe ⟨u1,p1,A1⟩ (.tail _ (.head _))
   ·exact fe _ (.tail _ (.tail _ he))
 ·obtain rfl:i=0:=by omega
  have w:=H.wd (i:=0) (e:=e) he
  exact ⟨w.short,fun x hx=>by rw [sc];exact w.bound x hx⟩
 ·rw [sc]
  refine look_not fun hm=>?_
  rcases (H.rel 2 (by decide)).kf _ hm with z|z
  ·exact absurd z (by decide +kernel)
  ·exact absurd z (by decide +kernel)
 ·show ((attrOf EXTS (elU u1) ats).getD _).cps.toList.length≤200
  rw [h2 _ _ (by decide +kernel)]
  exact (H.wd he1).short.2
theorem law1 (X:Orc g n) (x y:Int):Law1 g n x y:=by
 obtain ⟨u1,u2,p0,p1,p2,R,x1,y1,hu1,hu2,tv,hR,g0,g1,g2,CA⟩:=sheet_cr G (n+2) (X.up 2) x y
 obtain ⟨x2,y2,R1,A0,A1,A2,w0,w1,w2,tv1,hR1,H,CB⟩:=left_cr G (n+2) (X.up 2) hu1 hu2 tv hR g0 g1 g2 x1 y1
 obtain ⟨x3,y3,al,ha,h5⟩:=law_uloop G n X (t:=R1) (p0:=p0) (p1:=p1) (p2:=p2) (w0:=w0) (w1:=w1) (w2:=w2) x2 y2
 have he1:([⟨XSLTU,p0,A0⟩,⟨u1,p1,A1⟩,⟨u2,p2,A2⟩]:List El)[1]?=some ⟨u1,p1,A1⟩:=rfl
 obtain ⟨v,R2,ats,C8,_,tv2,k1,k2,_⟩:=setat_cr G (n+5) (na:=Q_ "xsl:exclude-result-prefixes") (u:=XSLTU) (lo:=EXCS) (v:=NOB) tv1 he1 (by omega) (by
  obtain ⟨w,_,_,_,_,_,hat⟩:=tv1.el 1 _ he1
  exact Nat.lt_of_le_of_lt (ats_len hat) (by omega))
 have E:=exc_cr G (n+4) (k:=3) tv1 H.few (Nat.le_refl _) (fun i e he _=>H.wd he) (goneLen H (Nat.le_refl _))
 rw [H.gone 3 (Nat.le_refl _)] at E
 exact ⟨R2,_,_,refuse_of hu1 H tv2 k1 k2,law_p1 G n CA CB h5 E (lgone_cr G (n+5) (by decide) (by decide) H.fewPW (H.hb (Nat.le_refl _))) (law_mloop G n X tv1 H ha x3 y3) C8⟩
end
noncomputable def fewA:List Row:=[Row.mk "root" "" "" "" "" none [1] [] [],Row.mk "element" "e" "" "e" "" (some 0) [] [] []]
noncomputable def fewE:El:=⟨"",[("p","u:1")],[]⟩
theorem few_tv0:TV fewA [⟨"",[],[]⟩]:=⟨⟨_,rfl,rfl,rfl,rfl⟩,fun i e he=>by
 cases i with
|zero=>cases he;exact ⟨_,rfl,rfl,rfl,rfl,⟨rfl,fun _ _ h=>nomatch h⟩,⟨rfl,List.nodup_nil,fun _ _ h=>nomatch h⟩⟩
|succ i=>cases he⟩
def Law2 (g:Cx) (n:Nat):Prop:=∃ vs' a',SsR g (n+10) (fun i=>i<0) lawSc [] (part 10 4 (lawSs [])) [] (.ret (.bool true)) vs' a'
noncomputable abbrev Z49 (r:Hp):Hp:=.dss [(Q_ "u:1",Q_ "u:2")]::.inst 668 [(Q_ "outer",.none),(Q_ "params",.loc 3 .root),(Q_ "own",.loc 4 .root),(Q_ "work",.loc 5 .root),(Q_ "result",.none)]::.dss []::.dss []::.inst 668 [(Q_ "outer",.none),(Q_ "params",.loc 6 .root),(Q_ "own",.loc 7 .root),(Q_ "tree",.loc 0 .root),(Q_ "scopes",.loc 8 .root),(Q_ "sheet",.loc 9 .root)]::.dss []::.dss []::r
noncomputable abbrev Z4j (r:Hp):Hp:=.inst 668 [(Q_ "outer",.none),(Q_ "params",.loc 10 .root),(Q_ "own",.loc 11 .root),(Q_ "aliases",.loc 1 .root)]::.dss []::.dss []::r
section
variable {g:Cx} (G:Gl g TT) (n:Nat)
include G
theorem law_p2 {t1 t2:List Row} {D:SS} (hE:CR g (n+10) 440 [.loc 0 .root,.nat 0,.str (Q_ "e"),.str (Q_ ""),.str (Q_ "e")] [.tree [(Row.mk (Q_ "root") (Q_ "") (Q_ "") (Q_ "") (Q_ "") none [] [] [])]] (.nat 1) [.tree t1]) (hN:CR g (n+10) 482 [.loc 0 .root,.nat 1,.str (Q_ "p"),.str (Q_ "u:1")] [.tree t1] (.nat 2) [.tree t2]) (hT:CR g (n+10) 205 [.loc 2 .root,.nat 1] (.tree t2::Z49 (.dictI []::Z4j [])) (.loc 12 .root) (.tree t2::Z49 (.dictI [(Int.ofNat 1,.loc 12 .root)]::Z4j [.prs D]))) (hD:D=[(Q_ "p",Q_ "u:2")]):SsR g (n+10) (fun i=>i<0) lawSc [] (part 10 4 (lawSs [])) [] (Fl.ret (AV.val (Value.bool true))) ([(Q_ "few",L0),(Q_ "one",AV.nat 1)]) ([AObj.tree t2,AObj.dss [(Q_ "u:1",Q_ "u:2")],AObj.inst 668 [(Q_ "outer",AV.val Value.none),(Q_ "params",L3),(Q_ "own",L4),(Q_ "work",L5),(Q_ "result",AV.val Value.none)],AObj.dss [],AObj.dss [],AObj.inst 668 [(Q_ "outer",AV.val Value.none),(Q_ "params",L6),(Q_ "own",L7),(Q_ "tree",L0),(Q_ "scopes",L8),(Q_ "sheet",L9)],AObj.dss [],AObj.dss [],AObj.dictI [(Int.ofNat 1,L12)],AObj.inst 668 [(Q_ "outer",AV.val Value.none),(Q_ "params",L10),(Q_ "own",L11),(Q_ "aliases",L1)],AObj.dss [],AObj.dss [],AObj.prs D,AObj.prs D,AObj.prs [(Q_ "p",Q_ "u:2")]]):=
 .go G 60 [Hint.call [0] (AV.val Value.none) [AObj.inst 576 [(Q_ "rows",L1)],AObj.list []],Hint.k 1,Hint.gc [0] [Q_ "few"],Hint.call [0] (AV.nat 0) [AObj.tree [Row.mk (Q_ "root") (Q_ "") (Q_ "") (Q_ "") (Q_ "") none [] [] []]],Hint.call [0] (AV.nat 1) [AObj.tree t1],Hint.call [0] (AV.nat 2) [AObj.tree t2],Hint.call [0,1] L2 [AObj.tree t2,AObj.dss [(Q_ "u:1",Q_ "u:2")],AObj.inst 668 [(Q_ "outer",AV.val Value.none),(Q_ "params",L3),(Q_ "own",L4),(Q_ "work",L5),(Q_ "result",AV.val Value.none)],AObj.dss [],AObj.dss [],AObj.inst 668 [(Q_ "outer",AV.val Value.none),(Q_ "params",L6),(Q_ "own",L7),(Q_ "tree",L0),(Q_ "scopes",L8),(Q_ "sheet",L9)],AObj.dss [],AObj.dss [],AObj.dictI [],AObj.inst 668 [(Q_ "outer",AV.val Value.none),(Q_ "params",L10),(Q_ "own",L11),(Q_ "aliases",L1)],AObj.dss [],AObj.dss []],Hint.call Z1c L12 [AObj.tree t2,AObj.dss [(Q_ "u:1",Q_ "u:2")],AObj.inst 668 [(Q_ "outer",AV.val Value.none),(Q_ "params",L3),(Q_ "own",L4),(Q_ "work",L5),(Q_ "result",AV.val Value.none)],AObj.dss [],AObj.dss [],AObj.inst 668 [(Q_ "outer",AV.val Value.none),(Q_ "params",L6),(Q_ "own",L7),(Q_ "tree",L0),(Q_ "scopes",L8),(Q_ "sheet",L9)],AObj.dss [],AObj.dss [],AObj.dictI [(Int.ofNat 1,L12)],AObj.inst 668 [(Q_ "outer",AV.val Value.none),(Q_ "params",L10),(Q_ "own",L11),(Q_ "aliases",L1)],AObj.dss [],AObj.dss [],AObj.prs D],Hint.k 3,Hint.b true] (Eq.mp (α:=(CR g (n+9) 405 [L0] [AObj.inst 576 []] (AV.val Value.none) [AObj.inst 576 [(Q_ "rows",L1)],AObj.list []])∧(some (AObj.inst 576 [(Q_ "rows",L1)])=some (AObj.inst 576 [(Q_ "rows",L1)])∧some (AObj.list [])=some (AObj.list []))∧(CR g (n+9+1) 426 [L0] [AObj.tree []] (AV.nat 0) [AObj.tree [Row.mk (Q_ "root") (Q_ "") (Q_ "") (Q_ "") (Q_ "") none [] [] []]])∧(CR g (n+9+1) 440 [L0,AV.nat 0,AV.str (Q_ "e"),AV.str (Q_ ""),AV.str (Q_ "e")] [AObj.tree [Row.mk (Q_ "root") (Q_ "") (Q_ "") (Q_ "") (Q_ "") none [] [] []]] (AV.nat 1) [AObj.tree t1])∧(CR g (n+9+1) 482 [L0,AV.nat 1,AV.str (Q_ "p"),AV.str (Q_ "u:1")] [AObj.tree t1] (AV.nat 2) [AObj.tree t2])∧(CR g (n+9+1) 730 [L0,L1,AV.val Value.none] [AObj.tree t2,AObj.dss [(Q_ "u:1",Q_ "u:2")]] L2 [AObj.tree t2,AObj.dss [(Q_ "u:1",Q_ "u:2")],AObj.inst 668 [(Q_ "outer",AV.val Value.none),(Q_ "params",L3),(Q_ "own",L4),(Q_ "work",L5),(Q_ "result",AV.val Value.none)],AObj.dss [],AObj.dss [],AObj.inst 668 [(Q_ "outer",AV.val Value.none),(Q_ "params",L6),(Q_ "own",L7),(Q_ "tree",L0),(Q_ "scopes",L8),(Q_ "sheet",L9)],AObj.dss [],AObj.dss [],AObj.dictI [],AObj.inst 668 [(Q_ "outer",AV.val Value.none),(Q_ "params",L10),(Q_ "own",L11),(Q_ "aliases",L1)],AObj.dss [],AObj.dss []])∧(CR g (n+9+1) 205 [L2,AV.nat 1] [AObj.tree t2,AObj.dss [(Q_ "u:1",Q_ "u:2")],AObj.inst 668 [(Q_ "outer",AV.val Value.none),(Q_ "params",L3),(Q_ "own",L4),(Q_ "work",L5),(Q_ "result",AV.val Value.none)],AObj.dss [],AObj.dss [],AObj.inst 668 [(Q_ "outer",AV.val Value.none),(Q_ "params",L6),(Q_ "own",L7),(Q_ "tree",L0),(Q_ "scopes",L8),(Q_ "sheet",L9)],AObj.dss [],AObj.dss [],AObj.dictI [],AObj.inst 668 [(Q_ "outer",AV.val Value.none),(Q_ "params",L10),(Q_ "own",L11),(Q_ "aliases",L1)],AObj.dss [],AObj.dss []] L12 [AObj.tree t2,AObj.dss [(Q_ "u:1",Q_ "u:2")],AObj.inst 668 [(Q_ "outer",AV.val Value.none),(Q_ "params",L3),(Q_ "own",L4),(Q_ "work",L5),(Q_ "result",AV.val Value.none)],AObj.dss [],AObj.dss [],AObj.inst 668 [(Q_ "outer",AV.val Value.none),(Q_ "params",L6),(Q_ "own",L7),(Q_ "tree",L0),(Q_ "scopes",L8),(Q_ "sheet",L9)],AObj.dss [],AObj.dss [],AObj.dictI [(Int.ofNat 1,L12)],AObj.inst 668 [(Q_ "outer",AV.val Value.none),(Q_ "params",L10),(Q_ "own",L11),(Q_ "aliases",L1)],AObj.dss [],AObj.dss [],AObj.prs D])∧(EqL (prsAV D) [AV.tup [AV.str (Q_ "p"),AV.str (Q_ "u:2")]] true)∧(Fl.ret (AV.val (Value.bool true))=Fl.ret (AV.val (Value.bool true))∧[(Q_ "few",L0),(Q_ "one",AV.nat 1)]=[(Q_ "few",L0),(Q_ "one",AV.nat 1)]∧[AObj.tree t2,AObj.dss [(Q_ "u:1",Q_ "u:2")],AObj.inst 668 [(Q_ "outer",AV.val Value.none),(Q_ "params",L3),(Q_ "own",L4),(Q_ "work",L5),(Q_ "result",AV.val Value.none)],AObj.dss [],AObj.dss [],AObj.inst 668 [(Q_ "outer",AV.val Value.none),(Q_ "params",L6),(Q_ "own",L7),(Q_ "tree",L0),(Q_ "scopes",L8),(Q_ "sheet",L9)],AObj.dss [],AObj.dss [],AObj.dictI [(Int.ofNat 1,L12)],AObj.inst 668 [(Q_ "outer",AV.val Value.none),(Q_ "params",L10),(Q_ "own",L11),(Q_ "aliases",L1)],AObj.dss [],AObj.dss [],AObj.prs D,AObj.prs D,AObj.prs [(Q_ "p",Q_ "u:2")]]=[AObj.tree t2,AObj.dss [(Q_ "u:1",Q_ "u:2")],AObj.inst 668 [(Q_ "outer",AV.val Value.none),(Q_ "params",L3),(Q_ "own",L4),(Q_ "work",L5),(Q_ "result",AV.val Value.none)],AObj.dss [],AObj.dss [],AObj.inst 668 [(Q_ "outer",AV.val Value.none),(Q_ "params",L6),(Q_ "own",L7),(Q_ "tree",L0),(Q_ "scopes",L8),(Q_ "sheet",L9)],AObj.dss [],AObj.dss [],AObj.dictI [(Int.ofNat 1,L12)],AObj.inst 668 [(Q_ "outer",AV.val Value.none),(Q_ "params",L10),(Q_ "own",L11),(Q_ "aliases",L1)],AObj.dss [],AObj.dss [],AObj.prs D,AObj.prs D,AObj.prs [(Q_ "p",Q_ "u:2")]])) (by kernel_rfl) ⟨tinit_cr G (n+7),⟨rfl,rfl⟩,root_cr G (n+5) (t:=[]) rfl,hE,hN,state0_cr G (n+6),hT,.same (.inr ⟨D,rfl,rfl⟩) (hD▸rfl),rfl,rfl,rfl⟩)
theorem law2:Law2 g n:=by
 have tv:=few_tv0.addNs (i:=0) (p:=Q_ "p") (u:=Q_ "u:1") rfl rfl
 have s0:spl (namesS fewE)=[]:=by kernel_rfl
 have T:=told0_cr G (n+2) (al:=[(Q_ "u:1",Q_ "u:2")]) (es:=[fewE]) (k:=1) tv ⟨(Nat.le_of_ble_eq_true rfl:1≤10),fun e he=>by rw [List.mem_singleton.mp he];exact (Nat.le_of_ble_eq_true rfl:1≤20)⟩ (Nat.le_refl _) (fun i e he _=>by
  cases i with
 |zero=>
   obtain rfl:=Option.some.inj he
   exact ⟨⟨Nat.zero_le _,Nat.zero_le _⟩,fun w hw=>by rw [s0] at hw;exact nomatch hw⟩
 |succ i=>cases he) (by
   show (goneN [fewE] 1++(spl (namesS fewE)).map _).length≤1000
   rw [s0];exact Nat.le_of_ble_eq_true rfl) (Nat.le_of_ble_eq_true (by kernel_rfl))
 exact ⟨_,_,law_p2 G n (el_cr G (n+4) (t:=[(Row.mk (Q_ "root") (Q_ "") (Q_ "") (Q_ "") (Q_ "") none [] [] [])]) (p:=0) rfl rfl rfl rfl) (addns_cr G (n+5) (t:=fewA) (i:=1) rfl rfl rfl (fun j h=>nomatch h) rfl) T (by kernel_rfl)⟩
end
section
set_option maxHeartbeats 80000000
section
theorem topRunT_spec {tb:String→Option Builtin} {p:Program} {w:World} {n₀:Nat} {ann:Option Value}:∀ {n:Nat} {s s':SharedT} {t:Thread},topRunT tb p w n₀ ann n s t=some s'→topRun tb p w n₀ ann n s.abs t=some s'.abs:=by
 intro n
 induction n with
|zero=>intro s s' t h;cases h
|succ n ih=>
  intro s s' t h
  unfold topRunT at h
  rw [←Fast.te6613529449190102663,←Fast.te10156331382660048174,←Fast.te11892475500146522536] at h
  unfold topRun
  cases hk:through t with
 |true=>rw [hk] at h;cases h;rfl
 |false=>
   rw [hk] at h
   cases hs:stepOk n₀ ann t with
  |false=>rw [hs] at h;cases h
  |true=>
    rw [hs] at h
    cases hr:stepT (denote tb) p w s t with
   |none=>rw [hr] at h;cases h
   |some r=>obtain ⟨s₂,t₂⟩:=r;rw [hr] at h;rw [stepT_spec hr];exact ih h
end
end
section
set_option maxHeartbeats 80000000
section
end
theorem d1:(defOf q1 (Str.ofString "law")).isSome=true:=by kernel_rfl
theorem d2:chainsOk q1=true:=by kernel_rfl
end
section
noncomputable def namesOk (sc:Scope):Bool:=sc.names.all fun p=>!(p.1==("__debug__":Str))&&!(p.1==("__classdict__":Str))&&!isKind .free (some p.2)
noncomputable def nodupS:List Str→Bool
|[]=>true
|x::r=>!memS x r&&nodupS r
noncomputable def nodupN:List Nat→Bool
|[]=>true
|x::r=>!r.any (Nat.beq x)&&nodupN r
noncomputable def fnFit (f:Addr) (d:FnD):Bool:=namesOk d.scope&&nodupS (pnames d)&&(pnames d).all (fun x=>isKind .local (look x d.scope.names)||isKind .cell (look x d.scope.names))&&nodupN ((cellsFrom 0 d.scope.names []).map (·.2))&&nodupS ((cellsFrom 0 d.scope.names []).map (·.1)) &&
 !d.scope.isCoroutine&&!d.scope.isGenerator&&(match d.scope.kind with|.function=>true|_=>false)&&dflOk d.dflts (dflV f)&&Nat.ble d.dflts.length (pnames d).length
theorem elimB {α:Type} {o:Option α} {f:α→Bool} (h:o.elim false f=true):∃ q,o=some q∧f q=true:=by
 cases o with
|none=>cases h
|some q=>exact ⟨q,rfl,h⟩
theorem fdIn_get {K:Frag} {hb:Heap} (X:K.In hb) {f:Addr} {fd:FuncData} (h:fdIn K f=some fd):∃ o,hb.get? f=some o∧o.data=.func fd:=by
 obtain ⟨o,e,h⟩:=Option.bind_eq_some_iff.mp h
 obtain ⟨q,_,rfl⟩:=Option.map_eq_some_iff.mp h
 exact ⟨o,X _ _ e,q.2⟩
theorem isStrV_get {q:Str} {v:Option Value} (h:isStrV q v=true):∃ t,v=some (.str q t):=by
 obtain ⟨u,e,h⟩:=elimB h
 obtain ⟨s,_,h⟩:=elimB h
 obtain ⟨s,t,e2⟩:=s
 obtain rfl:s=q:=strB_iff.mp h
 exact ⟨t,e2▸e⟩
theorem nameIn_get {K:Frag} {hb:Heap} (X:K.In hb) {cd:Value} {q:Str} (h:isStrV q (nameIn K cd)=true):hb.CodeRec cd q:=by
 obtain ⟨t,e⟩:=isStrV_get h
 obtain ⟨c,_,e⟩:=Option.bind_eq_some_iff.mp e
 obtain ⟨o,e1,e⟩:=Option.bind_eq_some_iff.mp e
 obtain ⟨vs,_,e⟩:=Option.bind_eq_some_iff.mp e
 exact ⟨c.1,o,vs.1,t,c.2,X _ _ e1,vs.2,e⟩
theorem dflOk_get {C:Cfg} {xs:List AV}:∀ {vs:List Value},dflOk xs vs=true→VReps C xs vs:=by
 induction xs with
|nil=>intro vs h;cases vs;exact .nil;cases h
|cons x xs ih=>
  intro vs h
  cases vs with
 |nil=>cases h
 |cons v vs=>
   obtain ⟨h1,h2⟩:=(Bool.and_eq_true _ _).mp h
   refine .cons ?_ (ih h2)
   cases x with
  |str s=>
    obtain ⟨t,e⟩:=isStrV_get ((Bool.and_eq_true _ _).mp h1).1
    rw [Option.some.inj e]
    exact .str s t ((Bool.and_eq_true _ _).mp h1).2
  |val w=>
    have h1:=(Bool.and_eq_true _ _).mp h1
    rw [show w=.none from of_decide_eq_true h1.1,show v=.none from of_decide_eq_true h1.2]
    exact .val _
  |_=>cases h1
theorem nodupS_get {l:List Str}:nodupS l=true→l.Nodup:=by
 induction l with
|nil=>exact fun _=>.nil
|cons x r ih=>
  intro h
  obtain ⟨h1,h2⟩:=(Bool.and_eq_true _ _).mp h
  refine List.nodup_cons.mpr ⟨fun hm=>?_,ih h2⟩
  rw [Bool.not_eq_true'] at h1
  exact absurd (List.any_eq_true.mpr ⟨x,hm,strB_self x⟩) (by rw [show r.any _=false from h1];exact fun z=>nomatch z)
theorem zipB {C:Cfg} {ps:List Str}:∀ {args:List AV} {us:List Value},VReps C args us→BPairs C (ps.zip args) (ps.zip us):=by
 induction ps with
|nil=>exact fun _=>.nil
|cons p ps ih=>
  intro args us r
  cases r with
 |nil=>exact .nil
 |cons h r=>exact .cons h (ih r)
theorem VReps.drop {C:Cfg} {k:Nat}:∀ {xs:List AV} {vs:List Value},VReps C xs vs→VReps C (xs.drop k) (vs.drop k):=by
 induction k with
|zero=>exact fun h=>h
|succ k ih=>
  intro xs vs h
  cases h with
 |nil=>exact .nil
 |cons _ r=>exact ih r
theorem given_self {us:List Value}:given us.length (fun i=>us.getD i .none)=us:=by
 refine List.ext_getElem? fun i=>?_
 rw [given,List.getElem?_map]
 by_cases h:i<us.length
 ·rw [List.getElem?_range h,Option.map_some,List.getD_eq_getElem?_getD,List.getElem?_eq_getElem h];rfl
 ·rw [List.getElem?_eq_none_iff.mpr (by rw [List.length_range];omega),List.getElem?_eq_none_iff.mpr (by omega)];rfl
theorem zip_keys {β:Type}:∀ (l:List Str) (m:List β),((l.zip m).map (·.1)).Sublist l:=by
 intro l
 induction l with
|nil=>exact fun m=>.slnil
|cons a l ih=>
  intro m
  cases m with
 |nil=>exact List.nil_sublist _
 |cons b m=>exact (ih m).cons_cons a
theorem isKind_some {k:NameKind} {o:Option NameKind} (h:isKind k o=true):o=some k:=isKind_iff h
theorem fnOk_of {K:Frag} {hb:Heap} (X:K.In hb) {f:Addr} {d:FnD} (h:fnSeen K f (arities d)=some (fnDue f d)) (hf:fnFit f d=true):FnOk hb f d:=by
 obtain ⟨fd,e,h⟩:=Option.map_eq_some_iff.mp h
 unfold fnDue at h
 obtain ⟨h1,h⟩:=Prod.mk.inj h
 obtain ⟨h2,h⟩:=Prod.mk.inj h
 obtain ⟨h3,h⟩:=Prod.mk.inj h
 obtain ⟨h4,h⟩:=Prod.mk.inj h
 obtain ⟨h5,h⟩:=Prod.mk.inj h
 obtain ⟨h6,h⟩:=Prod.mk.inj h
 obtain ⟨h7,h8⟩:=Prod.mk.inj h
 unfold fnFit at hf
 simp only [Bool.and_eq_true] at hf
 obtain ⟨⟨⟨⟨⟨⟨⟨⟨⟨f1,f2⟩,f3⟩,f4⟩,f5⟩,f6⟩,f7⟩,f8⟩,f9⟩,f10⟩:=hf
 obtain ⟨o,e1,e2⟩:=fdIn_get X e
 refine ⟨⟨o,fd,e1,e2,h1,h2,h3,h4,h5,h6,h1▸nameIn_get X (h1▸h7),?_,?_,?_,fun C args vs us s hb rs hk=>?_⟩,fun x k hx=>?_,fun x hx=>?_,fun args vs hv=>?_,nodupS_get f5⟩
 ·rw [h3];exact (Bool.not_eq_true' _).mp f6
 ·rw [h3];exact (Bool.not_eq_true' _).mp f7
 ·rw [h3]
  split at f8
  ·assumption
  ·cases f8
 ·unfold bindP at hb
  obtain ⟨hc,hb⟩:=bif_some hb
  obtain ⟨hc1,hc2⟩:=(Bool.and_eq_true _ _).mp hc
  have hc1:args.length≤(pnames d).length:=Nat.le_of_ble_eq_true hc1
  have hc2:(pnames d).length≤args.length+d.dflts.length:=Nat.le_of_ble_eq_true hc2
  subst hb
  refine ⟨(pnames d).zip (us++(dflV f).drop (us.length+d.dflts.length - (pnames d).length)),kp_binds (X.keeps hk) fun S=>?_,zipB ?_⟩
  ·have z:=congrFun (congrFun h8 S) (fun i=>us.getD i .none)
   have hm:us.length∈arities d:=List.mem_range'_1.mpr ⟨by rw [rs.length];omega,by rw [rs.length];omega⟩
   have z2:=(List.map_inj_left.mp z) _ hm
   rw [given_self] at z2
   exact z2
  ·rw [rs.length]
   exact rs.append (dflOk_get f9).drop
 ·have z:=List.all_eq_true.mp f1 _ (mem_of_look hx)
  simp only [Bool.and_eq_true,Bool.not_eq_true'] at z
  exact z.1
 ·have z:=List.all_eq_true.mp f1 _ (mem_of_look hx)
  simp only [Bool.and_eq_true,Bool.not_eq_true'] at z
  exact nomatch z.2
 ·unfold bindP at hv
  obtain ⟨_,hv⟩:=bif_some hv
  subst hv
  refine ⟨(zip_keys _ _).nodup (nodupS_get f2),fun x hx=>?_⟩
  have z:=List.all_eq_true.mp f3 _ ((zip_keys _ _).subset (List.mem_map_of_mem (f:=(·.1)) hx))
  exact ((Bool.or_eq_true _ _).mp z).imp isKind_some isKind_some
end
section
noncomputable def fitAll:Bool:=fnTab.all fun p=>match fnAt p.1 with
|some d=>fnFit p.1 d
|none=>true
theorem fits:fitAll=true:=by kernel_rfl
theorem isRef_get {a:Nat} {o:Option (Option Value)} (h:isRef a o=true):o=some (some (.ref a)):=of_decide_eq_true h
theorem isBlt_get {id:String} {o:Option (Option Value)} (h:isBlt id o=true):o=some (some (.builtin id)):=of_decide_eq_true h
theorem isNon_get {o:Option (Option Value)} (h:isNon o=true):o=some none:=of_decide_eq_true h
theorem bltIs_get {v:Value} {o:Option Value} (h:bltIs v o=true):o=some v:=of_decide_eq_true h
theorem memS_mem {x:Str} {l:List Str} (h:memS x l=true):x∈l:=by
 obtain ⟨y,hy,e⟩:=List.any_eq_true.mp h
 rw [strB_iff.mp e];exact hy
theorem lookN_mem {α:Type} {x:Nat} {v:α} {l:List (Nat×α)}:lookN x l=some v→(x,v)∈l:=by
 induction l with
|nil=>exact fun h=>nomatch h
|cons p r ih=>
  intro h
  rw [lookN] at h
  cases e:Nat.beq x p.1 with
 |true=>rw [e] at h;rw [Nat.eq_of_beq_eq_true e,← Option.some.inj h];exact .head _
 |false=>rw [e] at h;exact .tail _ (ih h)
section
variable {K:Frag} {hb:Heap} {p:Program} {loose:List Str} {mg mb:Str→Option Value}
theorem cls_of {C:Addr} (h:clsChk K C=true):ClsOk TT K C:=by
 unfold clsChk at h
 simp only [Bool.and_eq_true] at h
 obtain ⟨⟨⟨⟨⟨h1,h2⟩,h3⟩,h4⟩,h5⟩,h6⟩:=h
 refine ⟨h1,h2,isBlt_get h3,h4,fun x hx=>?_,fun x f hf=>?_⟩
 ·have hx:(match lookN C fieldTab with|some l=>memS x l|none=>false)=true:=hx
  cases e:lookN C fieldTab with
 |none=>rw [e] at hx;cases hx
 |some l=>
   rw [e] at hx h5
   have z:=List.all_eq_true.mp h5 x (memS_mem hx)
   obtain ⟨z1,z2⟩:=(Bool.and_eq_true _ _).mp z
   refine ⟨?_,isNon_get z2⟩
   split at z1
   ·rename_i a ha;exact ⟨a,ha,z1⟩
   ·cases z1
 ·obtain ⟨l,e,hf⟩:=Option.bind_eq_some_iff.mp (show (lookN C methTab).bind (look x)=some f from hf)
  rw [e] at h6
  obtain ⟨z1,z2⟩:=(Bool.and_eq_true _ _).mp (List.all_eq_true.mp h6 (x,f) (mem_of_look hf))
  exact ⟨isRef_get z1,z2⟩
theorem globI (X:K.In hb) (T:TopRead p loose mg mb hb) {x:Str} {v:Value} (e:nsIn K mainGlobals x=some (some v)):GlobIs hb x v:=fun M A E env s Q hg hbn keep q=>
 Calls.loadGlobal_global (env:=env) (by rw [hg];exact T.g.keeps keep) (mg_of X T.g e) q
theorem globB (X:K.In hb) (T:TopRead p loose mg mb hb) {x:Str} {v:Value} (e:nsIn K mainGlobals x=some none) (hv:bootBuiltins x=some v) (hn:x≠"__name__"):GlobIs hb x v:=fun M A E env s Q hg hbn keep q=>
 Calls.loadGlobal_builtin (env:=env) (by rw [hg];exact T.g.keeps keep) (mg_none_of X T.g e) (by rw [hbn];exact T.b.keeps keep) ((T.builtins x hn).trans hv) q
def GlobOk (hb:Heap) (x:Str) (v:AV):Prop:=∃ u,GlobIs hb x u∧∀ C:Cfg,(∀ b o,hb.get? b=some o→C.fz b=some o)→VRep C v u
theorem strsIn_get (X:K.In hb) {c:String} {v:Option (Option Value)} {xs:List AV} (h:strsIn K c v xs=true):∃ a vs k,v=some (some (.ref a))∧hb.get? a=some { cls:=.type c,data:=.seq vs.toArray k }∧xs.all flat=true∧xs.length≤cap∧dflOk xs vs=true:=by
 obtain ⟨v1,e1,q1⟩:=elimB h
 obtain ⟨v2,e2,q2⟩:=elimB q1
 obtain ⟨⟨a,e3⟩,_,q3⟩:=elimB q2
 obtain ⟨o,e,q4⟩:=elimB q3
 obtain ⟨⟨⟨d,items,k⟩,e4⟩,_,q5⟩:=elimB q4
 rw [Bool.and_eq_true,Bool.and_eq_true,Bool.and_eq_true] at q5
 obtain ⟨⟨⟨h1,h2⟩,h3⟩,h4⟩:=q5
 obtain rfl:d=c:=of_decide_eq_true h1
 exact ⟨a,items.toList,k,by rw [e1,e2,e3],by rw [Array.toArray_toList];exact X _ _ (e4▸e),h2,Nat.le_of_ble_eq_true h4,h3⟩
theorem glob_of (X:K.In hb) (T:TopRead p loose mg mb hb) {x:Str} {v:AV} (h:globChk K (x,v)=true):GlobOk hb x v:=by
 cases v with
|val v=>
  rcases (Bool.or_eq_true _ _).mp h with h|h
  ·obtain ⟨o,e,rfl⟩:=Option.bind_eq_some_iff.mp (bltIs_get h)
   exact ⟨_,globI X T e,fun _ _=>.val _⟩
  ·rw [Bool.and_eq_true,Bool.and_eq_true] at h
   exact ⟨_,globB X T (isNon_get h.1.1) (bltIs_get h.1.2) (fun e=>by have h3:=h.2;rw [e,strB_self] at h3;cases h3),fun _ _=>.val _⟩
|str s=>
  obtain ⟨o,e,h⟩:=elimB h
  have h:=(Bool.and_eq_true _ _).mp h
  obtain ⟨t,rfl⟩:=isStrV_get h.1
  exact ⟨_,globI X T e,fun _ _=>.str _ _ h.2⟩
|int i=>
  obtain ⟨o,e,q1⟩:=elimB h
  obtain ⟨v,e1,q2⟩:=elimB q1
  obtain ⟨⟨j,t,e2⟩,_,q3⟩:=elimB q2
  obtain rfl:j=i:=of_decide_eq_true q3
  exact ⟨_,globI X T (e.trans (congrArg some (e1.trans (congrArg some e2)))),fun _ _=>.int _ _⟩
|tup xs=>
  obtain ⟨a,vs,k,h1,h2,h3,h4,h5⟩:=strsIn_get X h
  exact ⟨_,globI X T h1,fun C hC=>.tup (hC _ _ h2) (dflOk_get h5) h4⟩
|lst xs=>
  obtain ⟨a,vs,k,h1,h2,h3,h4,h5⟩:=strsIn_get X h
  exact ⟨_,globI X T h1,fun C hC=>.lst (hC _ _ h2) (dflOk_get h5) h3 h4⟩
|loc n p=>cases h
theorem glob_at {x:Str} {v:Value} (h:globChk K (x,.val v)=true) (hn:bltIs v (bootBuiltins x)=false):nsIn K mainGlobals x=some (some v):=by
 rcases (Bool.or_eq_true _ _).mp h with h|h
 ·obtain ⟨o,e,rfl⟩:=Option.bind_eq_some_iff.mp (bltIs_get h)
  exact e
 ·rw [Bool.and_eq_true,Bool.and_eq_true] at h
  have:=h.1.2
  rw [hn] at this;cases this
theorem clsL_in (C:Addr) (h:(TT.init C).isSome=true∨(∃ x,TT.field C x=true)∨(∃ x f,TT.meth C x=some f)):C∈clsL:=by
 have k1:∀ q∈initTab,q.1∈clsL:=by decide
 have k2:∀ q∈fieldTab.map (·.1),q∈clsL:=by decide
 have k3:∀ q∈methTab.map (·.1),q∈clsL:=by decide
 rcases h with h|⟨x,h⟩|⟨x,f,h⟩
 ·obtain ⟨v,e⟩:=Option.isSome_iff_exists.mp h
  exact k1 _ (lookN_mem e)
 ·have h:(match lookN C fieldTab with|some l=>memS x l|none=>false)=true:=h
  cases e:lookN C fieldTab with
 |none=>rw [e] at h;cases h
 |some l=>exact k2 _ (List.mem_map_of_mem (f:=(·.1)) (lookN_mem e))
 ·obtain ⟨l,e,_⟩:=Option.bind_eq_some_iff.mp (show (lookN C methTab).bind (look x)=some f from h)
  exact k3 _ (List.mem_map_of_mem (f:=(·.1)) (lookN_mem e))
theorem fn_of (X:K.In hb) (h:tabSeen K=tabDue) {f:Addr} {d:FnD} (e:fnAt f=some d):FnOk hb f d:=by
 obtain ⟨q,e1,_⟩:=Option.bind_eq_some_iff.mp e
 have hm:=lookN_mem e1
 have z:(fnAt f).bind (fun d=>fnSeen K f (arities d))=(fnAt f).map fun d=>fnDue f d:=List.map_inj_left.mp h _ hm
 have z2:(match fnAt f with|some d=>fnFit f d|none=>true)=true:=List.all_eq_true.mp fits _ hm
 rw [e] at z z2
 exact fnOk_of X z z2
theorem gl_of {w:World} (X:K.In hb) (T:TopRead p loose mg mb hb) (h1:tabSeen K=tabDue) (h2:tabChk K=true):Gl ⟨P0,w,hb,K⟩ TT:=by
 unfold tabChk at h2
 simp only [Bool.and_eq_true,List.all_eq_true] at h2
 obtain ⟨⟨c1,c2⟩,c3⟩:=h2
 refine ⟨X,fun x v e=>glob_of X T (c3 _ (mem_of_look e)),fun f d e=>fn_of X h1 e,fun C hC=>cls_of (c1 C (clsL_in C hC)),fun C f e=>?_,T.nolimit,?_⟩
 ·have z:=c2 _ (lookN_mem (show lookN C initTab=some f from e))
  unfold initChk at z
  simp only [Bool.and_eq_true] at z
  exact ⟨z.1.1,isRef_get z.1.2,z.2⟩
 ·have e:(fnAt 686).isSome=true:=by kernel_rfl
  obtain ⟨d,e⟩:=Option.isSome_iff_exists.mp e
  obtain ⟨o,fd,h,_⟩:=(fn_of X h1 e).there
  exact ⟨686,o,(by decide:sysModules≤686),h⟩
end
end
structure Fly (l:List Env) (B:Heap) (e:Addr) (fl:Option Value) (h:Heap):Prop where
 stay:B.StaysIn h
 new:B.get? e=none
 frames:h.FunFrames B l
 tr:match fl with
 |none=>∃ oe vs a0,h.get? e=some oe∧oe.cls=.ref 75∧oe.data=.fields vs∧vs[0]?=some a0∧vs[1]?=some .none
 |some fl=>∃ a0,h.TracedAtW B e (.ref 75) a0 fl
section
variable {g:Cx} {l outer:List Env} {env:Env} {B:Heap} {e L:Addr} {fl:Option Value} {A:Around} {s:Shared} {Q:Unit→Shared→Prop} {E:Value→Shared→Prop}
theorem Fly.there {v:Value} (F:Fly l B e (some v) s.heap):∃ ob,s.heap.get? e=some ob∧ob.cls=.ref 75:=by obtain ⟨_,z⟩:=F.tr;exact z.there
theorem Fly.note (F:Fly (env::outer) B e fl s.heap) (hA:A.frames=some (env::outer)) (hf:env.frame=some L) (hfl:fl=none∨fl=some .none∨fl=some (rawInt L))
  (h:∀ h',Fly (env::outer) B e (some (rawInt L)) h'→s.heap.UpToSlots h'→Q () { s with heap:=h' }):wpAny g.M A (noteFrame (.ref e) env) Q E s:=by
 obtain ⟨f1,f2,f3,f4⟩:=F
 rcases hfl with rfl|rfl|rfl
 ·obtain ⟨oe,vs,a0,he,hc,hd,h0,h1⟩:=f4
  unfold noteFrame
  simp only [hf]
  refine wpAny_bind (wpAny_field he hd h1 ?_)
  rw [if_neg (by decide)]
  exact wpAny_entryW hA f3 hf he f1 f2 hd (Array.getElem?_eq_some_iff.mp h1).1 h0 fun h' w_=>by obtain ⟨k1,k2,k3,k4⟩:=w_;exact h h' ⟨k1,f2,k2,a0,hc▸k3⟩ k4
 ·obtain ⟨a0,f4⟩:=f4
  exact wpAny_noteFrame_onW hA f3 hf f4 f1 f2 fun h' w_=>by obtain ⟨k1,k2,k3,k4⟩:=w_;exact h h' ⟨k1,f2,k2,a0,k3⟩ k4
 ·obtain ⟨a0,f4⟩:=f4
  exact wpAny_noteFrame_againW hf f4 (h _ ⟨f1,f2,f3,a0,f4⟩ (.refl _))
theorem Fly.land {v:Value} (F:Fly l B e (some v) s.heap) (h:∀ h',Fly l B e (some .none) h'→s.heap.UpToSlots h'→Q () { s with heap:=h' }):wpAny g.M A (setFlight (.ref e) none) Q E s:=by
 obtain ⟨f1,f2,f3,a0,f4⟩:=F
 exact wpAny_setFlight_noneW f1 f3 f4 fun h' k1 k2 k3 k4=>h h' ⟨k1,f2,k2,a0,k3⟩ fun b o hb hn=>⟨o.slots,k4 b o hb hn⟩
theorem Fly.back {v:Value} (F:Fly l B e (some v) s.heap) (hf:env.frame=some L) (h:∀ h',Fly l B e (some (rawInt L)) h'→s.heap.UpToSlots h'→E (.ref e) { s with heap:=h' }):cameBackBy g.M A env E (.ref e) s:=by
 obtain ⟨f1,f2,f3,a0,oe,vs,T,oT,ts,he,hcls,hd,h1,hnT,hTe,hT,hdT,h3⟩:=F
 have hsz3:3<ts.size:=(Array.getElem?_eq_some_iff.mp h3).1
 have other:∀ b,b≠T→(s.heap.update T (Obj.mapFields (·.setIfInBounds 3 (rawInt L)))).get? b=s.heap.get? b:=fun b hb=>Heap.get?_update_other _ _ (Ne.symm hb)
 have noRecord:∀ b o,s.heap.get? b=some o→(∀ vs,o.data≠.fields vs)→b≠T:=fun b o hb hnf q=>by
  rw [q,hT] at hb;injection hb with hb;subst hb;exact hnf ts hdT
 unfold cameBackBy
 rw [hf]
 refine wpAny_bind (wpAny_field he hd h1 ?_)
 rw [if_neg (by simp)]
 refine wpAny_bind (wpAny_field he hd h1 ?_)
 rw [if_pos (show (Value.ref T != Value.none)=true from by simp)]
 refine wpAny_setField hT hdT hsz3 (h _ ⟨fun b o hbo=>(other b fun q=>by rw [q,hnT] at hbo;cases hbo).trans (f1 b o hbo),f2,
  f3.of_keeps fun b o hb hnf=>⟨o,(other b (noRecord b o hb hnf)).trans hb,rfl⟩,a0,?_⟩ fun b o hb hnf=>⟨o.slots,(other b (noRecord b o hb hnf)).trans hb⟩)
 exact ⟨oe,vs,T,_,_,(other e (Ne.symm hTe)).trans he,hcls,hd,h1,hnT,hTe,Heap.get?_update_self _ hT (Obj.isFreed_of_fields (Obj.data_mapFields hdT _)),Obj.data_mapFields hdT _,by simp [hsz3]⟩
theorem Fly.leave (F:Fly (env::outer) B e fl s.heap) (hA:A.frames=some (env::outer)) (hf:env.frame=some L) (hfl:fl=none∨fl=some .none∨fl=some (rawInt L))
  (h:∀ h',Fly outer B e (some .none) h'→s.heap.UpToSlots h'→Q () { s with heap:=h' }):wpAny g.M A (leaving env (.ref e)) Q E s:=by
 unfold leaving
 refine wpAny_bind (F.note hA hf hfl fun h₁ F₁ k₁=>?_)
 exact Fly.land (s:={ s with heap:=h₁ }) F₁ fun h₂ F₂ k₂=>h h₂ ⟨F₂.stay,F₂.new,F₂.frames.2.2,F₂.tr⟩ (k₁.trans k₂)
end
noncomputable abbrev frs (l:List Env):List Addr:=l.filterMap (·.frame)
def FrOk (σ:St) (l:List Env):Prop:=∀ env∈l,env.scope.kind≠.module∧∃ L o,env.frame=some L∧(σ.C.own L=some .prv∨σ.C.own L=some .lcl)∧σ.h.get? L=some o∧∀ vs,o.data≠.fields vs
def FrPrv (σ:St) (l:List Env):Prop:=FrOk σ l∧∀ x∈frs l,σ.C.own x=some .prv
structure Thn (l:List Env) (h₀:Heap) (σ':St) (e:Addr) (h':Heap) (B:Heap) (X:Addr→Prop) (fl:Option Value):Prop where
 keepB:∀ b o,σ'.h.get? b=some o→¬ X b→B.get? b=some o
 mine:OwnLP σ'.C X
 live:∀ b,X b→b=e∨∃ o,σ'.h.get? b=some o∧∀ vs,o.data≠.fields vs
 old:∀ b o,h₀.get? b=some o→X b→b∈frs l
 fly:Fly l B e fl h'
 slots:σ'.h.UpToSlots h'
def FlOk (env:Env) (fl:Option Value):Prop:=fl=none∨fl=some .none∨fl=some (rawInt env.locals)
section
variable {g:Cx} {D:Nat→Prop} {b:Bool} {C C':Cfg} {h h' h₁:Heap} {a a' a₁:Hp} {n m:Nat} {σ σ' σ₁:St} {sc:Scope} {vs vs' vs₁:Vars} {A:Around} {env:Env} {v u x y z:AV} {e f t r tgt:Expr} {p pos:Pos} {st:Stmt} {ss:List Stmt} {l outer:List Env} {E E':Value→Shared→Prop} {src:Src} {body:List Stmt}
theorem FrOk.mono (F:FrPrv σ l) (x:Nx D b σ σ'):FrPrv σ' l:=by
 refine ⟨fun env he=>?_,fun y hy=>x.ext.prv y (F.2 y hy)⟩
 obtain ⟨h1,L,o,h2,h3,h4,h5⟩:=F.1 env he
 have hp:=F.2 L (List.mem_filterMap.mpr ⟨env,he,h2⟩)
 exact ⟨h1,L,o,h2,.inl (x.ext.prv L hp),x.ext.keep L o h4 (nmut_prv hp) (.inr (nlcl_prv hp)),h5⟩
theorem FrOk.push (F:FrPrv σ l) (V:VR g σ env vs) (hE:EnvOk env sc) (hf:env.frame=some env.locals):FrOk σ (env::l):=fun en he=>by
 rcases List.mem_cons.mp he with rfl|he
 ·obtain ⟨m,⟨o,es,ep,ho,hd,_⟩,_⟩:=V.fr
  exact ⟨by rw [hE.kind];exact (fun z=>nomatch z),_,o,hf,.inr V.own,ho,fun vs q=>by rw [hd] at q;cases q⟩
 ·exact F.1 en he
theorem FrOk.funs {B:Heap} (F:FrOk σ l) (hB:∀ x∈frs l,B.get? x=none):σ.h.FunFrames B l:=by
 induction l with
|nil=>trivial
|cons env l ih=>
  obtain ⟨h1,L,o,h2,_,h4,h5⟩:=F env (.head _)
  exact ⟨h1,⟨L,o,h2,hB L (List.mem_filterMap.mpr ⟨env,.head _,h2⟩),h4,h5⟩,ih (fun en he=>F en (.tail _ he)) fun x hx=>hB x (by
   obtain ⟨en,he,hx⟩:=List.mem_filterMap.mp hx
   exact List.mem_filterMap.mpr ⟨en,.tail _ he,hx⟩)⟩
theorem Thn.back {e:Addr} {B:Heap} {X:Addr→Prop} {fl:Option Value} (T:Thn l h₁ σ' e h' B X fl) (k:∀ y o,h.get? y=some o→∃ o',h₁.get? y=some o'):Thn l h σ' e h' B X fl:=
 ⟨T.keepB,T.mine,T.live,fun y o e q=>by obtain ⟨o',e'⟩:=k y o e;exact T.old y o' e' q,T.fly,T.slots⟩
theorem Thn.step {e:Addr} {B h₂:Heap} {X:Addr→Prop} {fl fl':Option Value} (T:Thn l h σ' e h' B X fl) (F:Fly l B e fl' h₂) (k:h'.UpToSlots h₂):Thn l h σ' e h₂ B X fl':=
 ⟨T.keepB,T.mine,T.live,T.old,F,T.slots.trans k⟩
def Thr (g:Cx) (D:Nat→Prop) (b:Bool) (l:List Env) (ok:Option Value→Prop) (σ:St) (a':Hp) (E:Value→Shared→Prop):Prop:=
 ∀ e σ' h' B X fl,Nx D b σ σ'→Ok g σ'.C σ'.h a'→Thn l σ.h σ' e h' B X fl→ok fl→E (.ref e) { σ'.s with heap:=h' }
theorem Thr.after (x:Nx D b σ σ₁) {ok:Option Value→Prop} (T:Thr g D b l ok σ a' E):Thr g D b l ok σ₁ a' E:=fun e σ' h' B X fl x' O' t q=>T e σ' h' B X fl (x.trans x') O' (t.back fun y o e=>x.ext.live y o e) q
def SX (g:Cx) (n:Nat) (D:Nat→Prop) (sc:Scope) (vs:Vars) (st:Stmt) (a a':Hp):Prop:=∀ A env σ outer (Q:Flow→Shared→Prop) E,A.frames=some (env::outer)→env.frame=some env.locals→FrPrv σ outer→Room n A→EnvOk env sc→Ok g σ.C σ.h a→VR g σ env vs →
 Thr g D false (env::outer) (FlOk env) σ a' E→wpAny g.M A (exec st env) Q E σ.s
def SsX (g:Cx) (n:Nat) (D:Nat→Prop) (sc:Scope) (vs:Vars) (ss:List Stmt) (a a':Hp):Prop:=∀ A env σ outer (Q:Flow→Shared→Prop) E,A.frames=some (env::outer)→env.frame=some env.locals→FrPrv σ outer→Room n A→EnvOk env sc→Ok g σ.C σ.h a→VR g σ env vs →
 Thr g D false (env::outer) (FlOk env) σ a' E→wpAny g.M A (execs ss env) Q E σ.s
def CX (g:Cx) (n:Nat) (D:Nat→Prop) (f:Addr) (args:List AV) (a a':Hp):Prop:=∀ A σ us l R,A.frames=some l→FrOk σ l→Room n A→Ok g σ.C σ.h a→VReps σ.C args us →
 Thr g D true l (fun fl=>fl=some .none) σ a' (fun e s'=>R (.error e) s')→codeAny g.M A (.call (.ref f) ⟨us,[]⟩) R σ.s
theorem SsX.head (H:SX g n D sc vs st a a'):SsX g n D sc vs (st::ss) a a':=fun A env σ outer Q E hA hf hF hR hE O V T=>wpAny_execs_cons (H A env σ outer _ E hA hf hF hR hE O V T)
theorem SsX.tail (H:SR g n D sc vs st a .next vs₁ a₁) (K:SsX g n D sc vs₁ ss a₁ a'):SsX g n D sc vs (st::ss) a a':=fun A env σ outer Q E hA hf hF hR hE O V T=>
 wpAny_execs_cons (H A env σ hR hE O V _ E fun _ σ₁ F x O₁ V₁=>by
  cases F
  exact K A env σ₁ outer Q E hA hf (FrOk.mono hF x) hR hE O₁ V₁ (T.after x))
theorem SX.if (H:TvR g n sc vs t a true a₁) (K:SsX g n D sc vs body a₁ a') {els:List Stmt}:SX g n D sc vs (.If t body els pos) a a':=fun A env σ outer Q E hA hf hF hR hE O V T=>
 wpAny_If (H A env σ hR hE O V _ E fun w σ₁ x₁ O₁ r₁=>by
  subst r₁
  rw [if_pos rfl]
  exact K A env σ₁ outer Q E hA hf (FrOk.mono hF x₁) hR hE O₁ (V.ext x₁) (T.after x₁.wD))
inductive LoX (g:Cx) (n:Nat) (D:Nat→Prop) (sc:Scope) (tgt:Expr) (body:List Stmt) (src:Src) (a':Hp):Nat→Nat→Vars→Hp→Prop
|turn {k i:Nat} {x:AV} {vs vs₁ vs₂:Vars} {a a₂:Hp}:srcAt a i src=some (some x)→AsR g n sc tgt x vs a vs₁ a→SsR g n D sc vs₁ body a .next vs₂ a₂→LoX g n D sc tgt body src a' k (i+1) vs₂ a₂→LoX g n D sc tgt body src a' (k+1) i vs a
|raise {i:Nat} {x:AV} {vs vs₁:Vars} {a:Hp}:srcAt a i src=some (some x)→AsR g n sc tgt x vs a vs₁ a→SsX g n D sc vs₁ body a a'→LoX g n D sc tgt body src a' 0 i vs a
theorem LoX.split {k i:Nat} (L:LoX g n D sc tgt body src a' k i vs a):∃ x vs₁,srcAt a i src=some (some x)∧AsR g n sc tgt x vs a vs₁ a∧((∃ j vs₂ a₂,j<k∧SsR g n D sc vs₁ body a .next vs₂ a₂∧LoX g n D sc tgt body src a' j (i+1) vs₂ a₂)∨SsX g n D sc vs₁ body a a'):=by
 cases L with
|turn h1 h2 h3 h4=>exact ⟨_,_,h1,h2,.inl ⟨_,_,_,Nat.lt_succ_self _,h3,h4⟩⟩
|raise h1 h2 h3=>exact ⟨_,_,h1,h2,.inr h3⟩
def ForX (g:Cx) (n:Nat) (D:Nat→Prop) (sc:Scope) (env:Env) (tgt:Expr) (body:List Stmt) (src:Src) (a':Hp) (it:Addr) (I:Addr→Prop) (σ₀:St) (k:Nat) (s:Shared):Prop:=
 ∃ i vs a σ,s=σ.s∧Ok g σ.C σ.h a∧Nx D false σ₀ σ∧VR g σ env vs∧ItAt σ.C σ.h it I i src∧PrvI σ.C I∧LoX g n D sc tgt body src a' k i vs a
theorem SX.for {iter:Expr} {k:Nat} {els:List Stmt} (H:ItR g n sc vs iter a src a₁) (hD:SrcIn D src) (ht:needsTup src=true→isTupT tgt=true) (L:LoX g n D sc tgt body src a' k 0 vs a₁):SX g n D sc vs (.For tgt iter body els pos) a a':=by
 intro A env σ outer Q E hA hf hF hR hE O V T
 refine wpAny_For ?_ (fun x=>folded_plain H.1)
 refine H.2 A env σ _ E hR hE O V fun it I σ₁ x₁ O₁ It hI hN=>?_
 refine codeAny_forLoop_any (ForX g n D sc env tgt body src a' it I σ) ?_ k ⟨0,vs,a₁,σ₁,rfl,O₁,x₁.wD,V.ext x₁,It,hI,L⟩
 rintro k _ ⟨i,vs₂,a₂,σ₂,rfl,O₂,x₂,V₂,It₂,hI₂,L₂⟩
 obtain ⟨x,vs₃,e1,e2,fin⟩:=L₂.split
 refine It₂.item (tgt:=tgt) hI₂ O₂ e1 ht (fun u s₁ q=>q) fun u σ₃ S₃ ru It₃=>?_
 have hI₃:=S₃.prv hI₂
 refine e2 _ env σ₃ u hR hE S₃.ok (S₃.vr hI₂ V₂) ru _ _ fun σ₄ x₄ O₄ V₄=>?_
 have It₄:=It₃.next hI₃ x₄.toD hD
 have hI₄:PrvI σ₄.C I:=fun y hy=>x₄.ext.prv y (hI₃ y hy)
 have X₄:=(S₃.nx x₂ hN).trans x₄.toD
 rcases fin with ⟨j,vs₅,a₅,hj,e3,L₃⟩|e3
 ·refine e3 _ env σ₄ hR hE O₄ V₄ _ _ fun f' σ₅ F₅ x₅ O₅ V₅=>?_
  cases F₅
  exact ⟨j,hj,_,_,_,σ₅,rfl,O₅,X₄.trans x₅,V₅,It₄.next hI₄ x₅ hD,fun y hy=>x₅.ext.prv y (hI₄ y hy),L₃⟩
 ·refine e3 _ env σ₄ outer _ _ hA hf (FrOk.mono hF X₄) hR hE O₄ V₄ fun e σ' h' B X fl x' O' t q=>?_
  refine Fly.note (s:={ σ'.s with heap:=h' }) t.fly hA hf q fun h₂ F₂ k₂=>?_
  refine Fly.back (s:={ σ'.s with heap:=h₂ }) F₂ hf fun h₃ F₃ k₃=>?_
  exact T e σ' h₃ B X _ (X₄.trans x') O' ((t.step F₂ k₂).step F₃ k₃ |>.back fun y o e=>X₄.ext.live y o e) (.inr (.inr rfl))
end
section
variable {g:Cx} {T:Tabs} {D:Nat→Prop} {b:Bool} {C C':Cfg} {h h' h₁:Heap} {a a' a₁:Hp} {n m:Nat} {σ σ' σ₁:St} {sc:Scope} {vs vs' vs₁:Vars} {A:Around} {env:Env} {v u x y z:AV} {l outer:List Env} {E E':Value→Shared→Prop}
theorem FrOk.enter (F:FrOk σ l) {I:Addr→Prop} {s':Shared} (hg:∀ y,I y→σ.h.get? y=none) (k:∀ x o,σ.h.get? x=some o→s'.heap.get? x=some o):FrPrv ⟨σ.C.enter I,s'⟩ l:=by
 have key:∀ L o,σ.h.get? L=some o→(σ.C.own L=some .prv∨σ.C.own L=some .lcl)→(σ.C.enter I).own L=some .prv:=fun L o h3 h4=>by
  have hn:¬ I L:=fun q=>nomatch h3.symm.trans (hg L q)
  rcases h4 with h4|h4<;>exact Cfg.enter_old hn h4
 refine ⟨fun en he=>?_,fun y hy=>?_⟩
 ·obtain ⟨h1,L,o,h2,h3,h4,h5⟩:=F en he
  exact ⟨h1,L,o,h2,.inl (key L o h4 h3),k L o h4,h5⟩
 ·obtain ⟨en,he,hy⟩:=List.mem_filterMap.mp hy
  obtain ⟨_,L,o,h2,h3,h4,_⟩:=F en he
  obtain rfl:=Option.some.inj (h2.symm.trans hy)
  exact key L o h4 h3
theorem exitO_lp {x y:Option Own} (h:y=some .lcl∨y=some .prv):exitO x y=some .lcl∨exitO x y=some .prv:=by
 rcases h with rfl|rfl
 ·exact .inr rfl
 ·match x with
 |some .lcl=>exact .inl rfl
 |some .prv=>exact .inr rfl
 |some (.mu _ _)=>exact .inr rfl
 |none=>exact .inr rfl
theorem CX.fn (G:Gl g T) {f:Addr} {d:FnD} (hd:T.fn f=some d) {args:List AV} (e1:bindP d args=some vs) (H:SsX g n (fun i=>i<a.length) d.scope vs d.body a a'):CX g (n+1) (fun i=>i<a.length) f args a a':=by
 intro A σ us l R hA hF hR O rs h
 refine fn_enter G hd e1 hR O rs fun env h₁ t₁ hf' _ E₁ hgn kp O₁ V₁=>codeAny_func ?_
 have hA':(A.deeper env).frames=some (env::l):=Around.frames_deeper hA
 refine H (A.deeper env) env ⟨σ.C.enter (OwnF env),{ σ.s with heap:=h₁,toks:=t₁ }⟩ l _ _ hA' hf' (FrOk.enter (σ:=σ) hF hgn kp) (hR.deeper env) E₁ O₁ V₁ fun e σ₂ h₂ B Y fl x₂ O₂ t q=>?_
 have X₂:=Ext.call O hgn kp x₂.ext
 refine Fly.leave (s:={ σ₂.s with heap:=h₂ }) t.fly hA' hf' q fun h₃ F₃ k₃=>?_
 refine h e ⟨σ.C.exit σ₂.C,σ₂.s⟩ h₃ B Y _ ⟨X₂,x₂.same⟩ O₂.exit ⟨t.keepB,fun y hy=>exitO_lp (t.mine y hy),t.live,fun y o z hy=>?_,F₃,t.slots.trans k₃⟩ rfl
 have w:=t.old y o (kp y o z) hy
 rcases List.mem_cons.mp (show y∈env.locals::frs l by
  have z2:frs (env::l)=env.locals::frs l:=List.filterMap_cons_some hf'
  rw [← z2];exact w) with rfl|w
 ·exact nomatch z.symm.trans (hgn _ (.inl rfl))
 ·exact w
theorem CX.frame {f:Addr} {args args₀:List AV} {a₀ a₂:Hp} (κ:List Nat) (H:CX g n (fun i=>i<a₀.length) f args₀ a₀ a₁) (hκ:nodupB κ=true) (e0:gcH κ a=some a₀) (e1:trav (mapV fun n=>pos n κ) args=some args₀) (e2:outH κ a a₁=some a₂):CX g n All f args a a₂:=by
 intro A σ us l R hA hF hR O rs h
 have hn:=nodupB_of hκ
 have inv:=inv_κ hn
 have inv₂:=inv_out hn (gcH_in e0)
 obtain ⟨p1,p2,p3⟩:=outH_at e2
 have hf:∀ n,n<a.length→outB κ a.length n=pos n κ:=fun n hn=>by unfold outB;rw [show Nat.blt n a.length=true from Nat.ble_eq_true_of_le hn];rfl
 have hD:∀ n m,pos n κ=some m→m<a₀.length:=fun n m e=>gcH_len e0▸(List.getElem?_eq_some_iff.mp (pos_get e)).1
 refine H A ⟨σ.C.ren (fun n=>pos n κ) (fun m=>κ[m]?),σ.s⟩ us l R hA (fun en he=>?_) hR (O.ren inv (gcH_at e0) fun m n e=>gcH_len e0▸(List.getElem?_eq_some_iff.mp e).1) ((Tr.ren inv).vs e1 rs) fun e σ' h' B X fl x O' t q=>?_
 ·obtain ⟨h1,L,o,h2,h3,h4⟩:=hF en he
  exact ⟨h1,L,o,h2,h3.imp (fun z=>Cfg.ren_not z id) (fun z=>Cfg.ren_not z id),h4⟩
 ·refine h e ⟨σ.C.back σ'.C (fun n=>pos n κ) (outF κ a.length) (outB κ a.length),σ'.s⟩ h' B X fl ⟨Ext.back O inv hf hD x.ext,x.same⟩ (Ok.back O O' inv inv₂ hf hD x.ext p1 p2 p3) ⟨t.keepB,fun y hy=>?_,t.live,t.old,t.fly,t.slots⟩ q
  rcases t.mine y hy with z|z
  ·exact .inl (Cfg.back_other z id (fun w=>nomatch w))
  ·refine .inr (Cfg.back_prv z ?_)
   cases w:σ.h.get? y with
  |none=>exact nmut_none (O.own_none w)
  |some o=>
    obtain ⟨en,he,hy'⟩:=List.mem_filterMap.mp (t.old y o w hy)
    obtain ⟨_,L,_,h2,h3,_⟩:=hF en he
    obtain rfl:=Option.some.inj (h2.symm.trans hy')
    exact h3.elim nmut_prv nmut_lcl
end
section
open Builtin
def IsExc (o:Option Obj):Prop:=∃ nm q N bs sn sub ab col dd k0 k1 k2 k3 k5,o=some (excClassObj nm q 75 N bs mroE true sn sub ab col dd k0 k1 k2 k3 k5 "Exception.__new__")
theorem exc_of {o:Obj} {cd:ClassData} {k0 k1 k2 k3 k5:Option Value} (h1:o.cls=.type "type") (h2:o.slots=#[k0,k1,k2,k3,some (.builtin "Exception.__new__"),k5]) (h3:o.data=.cls cd) (h4:cd.mro=.ref 75::mroE) (h5:cd.hasDict=true) (h6:cd.hasDel=false):IsExc (some o):=by
 obtain ⟨c,dd,d,l⟩:=o
 obtain ⟨nm,bs,mro,ns,qn,hd,sn,sub,ab,col,del⟩:=cd
 obtain rfl:c=_:=h1
 obtain rfl:l=_:=h2
 obtain rfl:d=_:=h3
 obtain rfl:mro=_:=h4
 obtain rfl:hd=_:=h5
 obtain rfl:del=_:=h6
 exact ⟨nm,qn,ns,bs,sn,sub,ab,col,dd,k0,k1,k2,k3,k5,rfl⟩
theorem excOk_get {o:Option Obj} (h:excOk o=true):IsExc o:=by
 cases o with
|none=>cases h
|some o=>
  unfold excOk at h
  rw [Bool.and_eq_true,Bool.and_eq_true] at h
  obtain ⟨cd,h6,h7⟩:=elimB h.2
  rw [Bool.and_eq_true,Bool.and_eq_true] at h7
  exact exc_of (of_decide_eq_true h.1.1) (of_decide_eq_true h.1.2) cd.2 (of_decide_eq_true h7.1.1) h7.1.2 ((Bool.not_eq_true' _).mp h7.2)
noncomputable abbrev F0:=PySem.F.excBase_Exception
section
variable {prog:Program} {w:World} {A:Around} {E:Value→Shared→Prop} {h:Heap} {g:Array GenState} {d:Drawn} {t:Nat} {os:OsState}
variable {nm q:Str} {N:Addr} {bs:List Value} {hdct:Bool} {sn:List Str} {sub:List Value} {ab:Bool} {col:Option Bool} {dd:Option Addr} {k0 k1 k2 k3 k5:Option Value}
theorem check_newE {rest:List Value} {Q:Unit→Shared→Prop} (hC:h.get? 75=some (excClassObj nm q 75 N bs mroE hdct sn sub ab col dd k0 k1 k2 k3 k5 "Exception.__new__"))
  (hq:Q () ⟨h,g,d,t,os⟩):wpAny (model prog w) A (checkBuiltinCall "Exception.__new__" ⟨.ref 75::rest,[]⟩) Q E ⟨h,g,d,t,os⟩:=by
 have hcont:(Value.ref 75::mroE).contains (.type "Exception")=true:=by decide
 have hstar:=F0.noStar
 simp only [checkBuiltinCall,F0.newKind,F0.newSplit,F0.newRow]
 repeat (first|refine wpAny_loadPart_at hC ?_|(refine wpAny_isSubtype_exc hC ?_;rw [hcont])|refine wpAny_staticBase_exc hC ?_|refine wpAny_madeBy_exc hC ?_|simp only [bne_self_eq_false,Bool.false_eq_true,if_false]|wp_step)
 exact hq
theorem exc_newE {R:Result→Shared→Prop} {rest:List Value} (hC:h.get? 75=some (excClassObj nm q 75 N bs mroE hdct sn sub ab col dd k0 k1 k2 k3 k5 "Exception.__new__"))
  (hq:R (.ok (.ret (.ref (h.objs.size+1)))) ⟨(h.push { cls:=.type "tuple",data:=.seq rest.toArray }).push
   {cls:=.ref 75,data:=.fields #[.ref h.objs.size,.none,.none,.none,.bool false,.none] },g,d,t,os⟩) (hrest:rest.length≤sizeLine):
  codeAny (model prog w) A (.builtin "Exception.__new__" ⟨.ref 75::rest,[]⟩) R ⟨h,g,d,t,os⟩:=by
 have hends:=F0.ends
 have hcB:(Value.ref 75::mroE).contains (.type "Exception")=true:=by decide
 have hcA:(Value.ref 75::mroE).contains (.type "AttributeError")=false:=by decide
 have hcN:(Value.ref 75::mroE).contains (.type "NameError")=false:=by decide
 refine codeAny_builtinAt F0.entry ?_
 unfold Builtin.«BaseException.__new__»
 refine PySem.wpAt_bind ?_
 show PySem.wpAt _ _ _ (stack>>=_) _ _ _
 refine PySem.wpAt_bind (PySem.wpAt_stack fun p below=>PySem.wpAt_of_wpAny ?_)
 wp_walk
 refine PySem.wpAt_of_wpAny ?_
 rw [F0.owner]
 repeat (first|with_reducible refine wpAny_madeHere_exc F0.canon hC ?_|with_reducible refine wpAny_loadPart_at hC ?_|(with_reducible refine wpAny_isSubtype_exc hC ?_;first|rw [hcB]|rw [hcA]|rw [hcN])|wp_step)
 show R _ _
 rw [Heap.size_push]
 exact hq
theorem type_callE {K:Frag} (X:K.In h) (hf:isFn K (.ref 35)=true) (hl:findIn K (.ref 75) "__init__"=some (some (.ref 35))) {rest:List Value} {Q:Fin→Shared→Prop} (hC:h.get? 75=some (excClassObj nm q 75 N bs mroE hdct sn sub ab col dd k0 k1 k2 k3 k5 "Exception.__new__"))
  (hq:∀ h' e,Heap.MadeExcOf h h' e (.ref 75) rest→wpAny (model prog w) A (call (.ref 35) (.ref e::rest)) (fun r s'=>r=.none∧Q (.done (.ret (.ref e))) s') E ⟨h',g,d,t,os⟩) (hrest:rest.length≤sizeLine):
  wpAny (model prog w) A (Builtin.«type.__call__» ⟨.ref 75::rest,[]⟩) Q E ⟨h,g,d,t,os⟩:=by
 repeat (first|with_reducible refine wpAny_loadPart_at hC ?_|with_reducible refine wpAny_madeBy_exc hC ?_|wp_step)
 refine codeAny_call_builtin_code (Code.quiet_builtin _ F0.quiet) (check_newE hC ?_)
 refine exc_newE hC ?_ hrest
 show wpAny _ _ _ _ _ _
 have kp:∀ b o,h.get? b=some o→((h.push { cls:=.type "tuple",data:=.seq rest.toArray }).push { cls:=.ref 75,data:=.fields #[.ref h.objs.size,.none,.none,.none,.bool false,.none] }).get? b=some o:=fun b o e=>Heap.get?_push_of_some _ (Heap.get?_push_of_some _ e)
 have hC₁:=kp _ _ hC
 have hget:((h.push { cls:=.type "tuple",data:=.seq rest.toArray }).push
   {cls:=.ref 75,data:=.fields #[.ref h.objs.size,.none,.none,.none,.bool false,.none] }).get? (h.objs.size+1)=some
   {cls:=.ref 75,data:=.fields #[.ref h.objs.size,.none,.none,.none,.bool false,.none] }:=by heap_get
 have hcC:(Value.ref 75::mroE).contains (.ref 75)=true:=by decide
 have X₁:=X.keeps kp
 unfold isInstance
 repeat (first|with_reducible refine wpAny_loadPart_at hget ?_|(with_reducible refine wpAny_isSubtype_exc hC₁ ?_;rw [hcC])|wp_step)
 show wpAny _ _ (typeLookup (.ref 75) _) _ _ _
 refine (looks_findIn X₁ hl).here ?_
 refine wpAny_holding (wpAny_bind ?_)
 refine (bind_fn X₁ _ (beq_iff_eq.mp hf)).here ?_
 refine wpAny_bind (wpAny_mono (hq _ (h.objs.size+1) ⟨kp,Heap.get?_none_of_le (Nat.le_succ _),h.objs.size,hget,Heap.get?_none_of_le (Nat.le_refl _),?_⟩) (fun r s' hr=>?_) fun _ _ x=>x)
 ·exact Heap.get?_push_of_some _ (Heap.get?_push_at rfl rfl)
 ·obtain ⟨rfl,hQ⟩:=hr
  wp_walk
  exact hQ
theorem callE {K:Frag} (X:K.In h) (hf:isFn K (.ref 35)=true) (hl:findIn K (.ref 75) "__init__"=some (some (.ref 35))) {rest:List Value} {Q:Value→Shared→Prop} (hC:h.get? 75=some (excClassObj nm q 75 N bs mroE hdct sn sub ab col dd k0 k1 k2 k3 k5 "Exception.__new__"))
  (hq:∀ h' e,Heap.MadeExcOf h h' e (.ref 75) rest→wpAny (model prog w) (A.under (.builtin "type.__call__" ⟨.ref 75::rest,[]⟩)) (call (.ref 35) (.ref e::rest)) (fun r s'=>r=.none∧Q (.ref e) s') E ⟨h',g,d,t,os⟩) (hrest:rest.length≤sizeLine):
  wpAny (model prog w) A (call (.ref 75) rest) Q E ⟨h,g,d,t,os⟩:=by
 have f1:=tc_lookup
 have f2:=tc_bind (.ref 75)
 have hT:(⟨h,g,d,t,os⟩:Shared).TypeIs (.ref 75) "type":=⟨_,hC,rfl⟩
 refine wpAny_call (codeAny_of_tree ?_)
 show wpAny _ _ (callAny (.ref 75) _) _ _ _
 repeat (any_goals (first|assumption|with_reducible refine wpAny_loadPart_at hC ?_|wp_step))
 refine ⟨rfl,?_⟩
 refine codeAny_call_builtin_at (Code.quiet_builtin _ (by decide +kernel)) entry_typeCall (wpAny_check_type_call_sub hC (type_callE X hf hl hC (fun h' e hm=>?_) hrest))
 exact hq h' e hm
theorem callX {K:Frag} {s:Shared} (X:K.In s.heap) (hf:isFn K (.ref 35)=true) (hl:findIn K (.ref 75) "__init__"=some (some (.ref 35))) {rest:List Value} {Q:Value→Shared→Prop} (hC:IsExc (s.heap.get? 75))
  (hq:∀ h' e,Heap.MadeExcOf s.heap h' e (.ref 75) rest→wpAny (model prog w) (A.under (.builtin "type.__call__" ⟨.ref 75::rest,[]⟩)) (call (.ref 35) (.ref e::rest)) (fun r s'=>r=.none∧Q (.ref e) s') E { s with heap:=h' }) (hrest:rest.length≤sizeLine):
  wpAny (model prog w) A (call (.ref 75) rest) Q E s:=by
 obtain ⟨_,_,_,_,_,_,_,_,_,_,_,_,_,_,hC⟩:=hC
 exact callE X hf hl hC hq hrest
theorem keepX {s:Shared} {A:Around} {M:Model} {Q:Keeper→Shared→Prop} (hC:IsExc (s.heap.get? 75)) (h:Q .machine s):wpAny M A (keeperOf (.ref 75)) Q E s:=by
 obtain ⟨_,_,_,_,_,_,_,_,_,_,_,_,_,_,hC⟩:=hC
 exact wpAny_keeperOf_exc hC h
end
end
section
open Builtin
noncomputable abbrev excObj (t0:Addr) (dd:Option Addr):Obj:={ cls:=.ref 75,dict:=dd,data:=.fields #[.ref t0,.none,.none,.none,.bool false,.none] }
section
variable {prog:Program} {w:World} {A:Around} {E:Value→Shared→Prop} {h:Heap} {g:Array GenState} {d:Drawn} {t:Nat} {os:OsState}
variable {nm q:Str} {N:Addr} {bs:List Value} {hdct:Bool} {sn:List Str} {sub:List Value} {ab:Bool} {col:Option Bool} {dd:Option Addr} {k0 k1 k2 k3 k5:Option Value}
theorem excMeth {s:Shared} {L:Addr} {m:Str→Option Value} (F:s.heap.Ns L m) {pl:Sem Bool} {Q:Value×List Value→Shared→Prop} (hq:Q (.builtin "Exception.__init__",[]) { s with toks:=s.toks+1 }):
  wpAny (model prog w) A (getMethod (.type "Exception") "__init__" pl) Q E s:=
 method_type (K:=[]) (h₀:={}) ⟨F,(fun b o e=>nomatch e),Nat.zero_le _⟩ (fun b o e=>nomatch e) (by kernel_rfl) (by kernel_rfl) (by kernel_rfl) (by kernel_rfl) hq
theorem check_initE {e:Addr} {oe:Obj} {rest:List Value} {Q:Unit→Shared→Prop}
  (hC:h.get? 75=some (excClassObj nm q 75 N bs mroE hdct sn sub ab col dd k0 k1 k2 k3 k5 "Exception.__new__")) (he:h.get? e=some oe) (hcls:oe.cls=.ref 75) (hq:Q () ⟨h,g,d,t,os⟩):
  wpAny (model prog w) A (checkBuiltinCall "Exception.__init__" ⟨.ref e::rest,[]⟩) Q E ⟨h,g,d,t,os⟩:=by
 have hcB:(Value.ref 75::mroE).contains (.type "Exception")=true:=by decide
 have hshort:=F0.noStar
 simp only [checkBuiltinCall,F0.initKind,F0.initSplit,F0.initRow]
 repeat (first|(with_reducible refine wpAny_loadPart_at he ?_;rw [hcls])|with_reducible refine wpAny_loadPart_at hC ?_|(with_reducible refine wpAny_isSubtype_exc hC ?_;rw [hcB])|wp_step)
 refine wpAny_onRaise ?_
 rw [show ∀ (a b:String) (n:Nat),Bind.check ⟨.positional,"*","Exception",.self,[⟨"args",.varPos,false⟩]⟩ a b n (List.map (fun x=>x.fst) ({ pos:=Value.ref e::rest }:Args).kw)=pure () from
  fun a b n=>check_star_args _ _ _ _ _ _]
 exact wpAny_pure hq
theorem initE {e t0:Addr} {v:Value} {Q:Value→Shared→Prop} (hC:h.get? 75=some (excClassObj nm q 75 N bs mroE hdct sn sub ab col dd k0 k1 k2 k3 k5 "Exception.__new__"))
  (he:h.get? e=some (excObj t0 none))
  (hq:∀ h',(∀ b o,b≠e→h.get? b=some o→h'.get? b=some o)→h'.get? e=some (excObj h.objs.size none)→Q .none ⟨h',g,d,t,os⟩):
  wpAny (model prog w) A (call (.builtin "Exception.__init__") [.ref e,v]) Q E ⟨h,g,d,t,os⟩:=by
 refine wpAny_call (codeAny_call_builtin F0.init.plain F0.initEntry (check_initE hC he rfl ?_))
 wp_walk
 refine hq _ (fun b o hb e=>?_) ?_
 ·rw [Heap.get?_update_other _ _ (Ne.symm hb)]
  exact Heap.get?_push_of_some _ e
 ·rw [Heap.get?_update_self _ (Heap.get?_push_of_some _ he) rfl]
  rfl
theorem initX {s:Shared} {e t0:Addr} {v:Value} {Q:Value→Shared→Prop} (hC:IsExc (s.heap.get? 75)) (he:s.heap.get? e=some (excObj t0 none))
  (hq:∀ h',(∀ b o,b≠e→s.heap.get? b=some o→h'.get? b=some o)→h'.get? e=some (excObj s.heap.objs.size none)→Q .none { s with heap:=h' }):
  wpAny (model prog w) A (call (.builtin "Exception.__init__") [.ref e,v]) Q E s:=by
 obtain ⟨_,_,_,_,_,_,_,_,_,_,_,_,_,_,hC⟩:=hC
 exact initE (h:=s.heap) (g:=s.gens) hC he hq
end
end
section
open Builtin Builtin.ObjectAttr
section
variable {prog:Program} {w:World} {A:Around} {E:Value→Shared→Prop} {s:Shared}
variable {nm q:Str} {N:Addr} {bs:List Value} {sn:List Str} {sub:List Value} {ab:Bool} {col:Option Bool} {dd:Option Addr} {k0 k1 k2 k3 k5:Option Value}
theorem osaE {K:Frag} (X:K.In s.heap) {x t0:Addr} {name:Str} {tk:Tok} {v:Value} {R:Result→Shared→Prop} (hC:s.heap.get? 75=some (excClassObj nm q 75 N bs mroE true sn sub ab col dd k0 k1 k2 k3 k5 "Exception.__new__")) (hx:s.heap.get? x=some (excObj t0 none)) (ht:takerIn K 75 name=some none)
  (h:∀ h' tk' dx,(∀ b o,b≠x→s.heap.get? b=some o→h'.get? b=some o)→h'.get? x=some (excObj t0 dx)→R (.ok (.ret .none)) { s with heap:=h',toks:=tk' }):
  codeAny (model prog w) A (.call (.builtin "object.__setattr__") ⟨[.ref x,.str name tk,v],[]⟩) R s:=by
 have SF:=PySem.F.store_object
 have I:InstAt s.heap x (excObj t0 none) 75 none:=⟨hx,rfl,rfl,trivial⟩
 have hm:Looks (model prog w) s.heap (mroOf (.ref 75)) (.ref 75::mroE):=(Looks.ld (part:=none) hC).andThen .now
 have hs:Looks (model prog w) s.heap (isSubtype (.ref 75) (.type "object")) true:=by
  intro A Q E s' k hq
  obtain ⟨hh,g,d,t,os⟩:=s'
  refine wpAny_isSubtype_exc (k _ _ hC) ?_
  rw [show (Value.ref 75::mroE).contains (.type "object")=true by decide]
  exact hq
 have sub:Looks (model prog w) s.heap (isInstance (.ref x) (.type "object")) true:=I.type.andThen hs
 refine codeAny_call_builtin SF.slot.plain SF.entry (@check_slot (model prog w) _ _ s "object.__setattr__" "object" "__setattr__" (.ref x) [.str name tk,v] [] _ SF.kind SF.split sub (SF.args (.ref x) (.str name tk) v) ?_)
 obtain ⟨attr,ha,hr⟩:=Option.bind_eq_some_iff.mp ht
 have L3:Looks (model prog w) s.heap (storeTaker? attr) none:=by
  cases attr with
 |none=>cases hr;exact .now
 |some a=>
   obtain ⟨b,hb,hr⟩:=Option.map_eq_some_iff.mp hr
   refine (looks_takesIn X hb).andThen ?_
   cases b with
  |true=>cases hr
  |false=>exact .now
 rw [osa_eq,refuse_eq]
 refine wpAny_bind (wpAny_bind (I.type.here (wpAny_bind (hm.here ?_))))
 rw [refuseLoop_ref,refuseLoop_ref,PySem.F.store_Exception.passes]
 refine wpAny_pure (wpAny_bind (I.type.here (wpAny_bind ((looks_findIn X ha).here (wpAny_bind (L3.here ?_))))))
 dsimp only
 unfold storeInOwnDict
 refine wpAny_bind (wpAny_pure (wpAny_bind ?_))
 show wpAny _ _ (instanceDict x true) _ _ _
 unfold instanceDict
 have L75:Looks (model prog w) s.heap (classData 75) _:=(Looks.ld (part:=none) hC).andThen .now
 refine wpAny_bind (wpAny_loadPart hx (wpAny_bind (L75.here ?_)))
 rw [if_neg (by simp)]
 dsimp only
 rw [if_neg (by simp [typeHasDict])]
 obtain ⟨hp,gg,d,t,os⟩:=s
 dsimp only at hx hC ⊢
 have hx₁:(hp.push { cls:=.type "dict",data:=.dict #[] }).get? x=some (excObj t0 none):=Heap.get?_push_of_some _ hx
 have hxs:x≠hp.objs.size:=Nat.ne_of_lt (Heap.lt_size hx)
 refine wpAny_bind (wpAny_alloc' ?_)
 refine wpAny_bind (wpAny_update' hx₁ ?_)
 refine wpAny_pure ?_
 have hgd:((hp.push { cls:=.type "dict",data:=.dict #[] }).update x fun o=>{ cls:=o.cls,dict:=some hp.objs.size,data:=o.data,slots:=o.slots }).get? hp.objs.size
  =some { cls:=.type "dict",data:=.dict #[] }:=
  (Heap.get?_update_ne _ _ _ _ hxs.symm).trans (Heap.get?_push_at rfl rfl)
 have hnd:((hp.push { cls:=.type "dict",data:=.dict #[] }).update x fun o=>{ cls:=o.cls,dict:=some hp.objs.size,data:=o.data,slots:=o.slots }).Ns hp.objs.size (fun _=>none):=
  ⟨_,#[],_,hgd,rfl,fun e he=>absurd he (by simp),fun _=>rfl⟩
 show wpAny _ _ (storeInDict hp.objs.size (.str name tk) name v) _ _ _
 unfold storeInDict newKeyGuard
 refine wpAny_bind (wpAny_pure (wpAny_bind (wpAny_nsSet1 (Heap.Ns1.of_empty hnd) fun h' hn' hs=>?_)))
 obtain ⟨oD,esD,epD,hoD,hdD,hcD⟩:=hn'.count (Within.cons name v Within.nil)
 refine wpAny_bind (wpAny_lookBehind hoD (by rw [hdD];exact pastItsLine_dict (Nat.le_trans hcD (by rw [List.length_cons,List.length_nil,sizeLine_eq];omega))) ?_)
 wp_walk
 refine h h' _ (some hp.objs.size) (fun b o hb e=>?_) ?_
 ·exact (hs.2 b (Nat.ne_of_lt (Heap.lt_size e))).trans ((Heap.get?_update_ne _ _ _ _ hb).trans (Heap.get?_push_of_some _ e))
 ·exact (hs.2 x hxs).trans (Heap.get?_update_self _ hx₁ rfl)
theorem setE {K:Frag} (X:K.In s.heap) {x t0:Addr} {name:Str} {v:Value} {Q:Unit→Shared→Prop} (hC:s.heap.get? 75=some (excClassObj nm q 75 N bs mroE true sn sub ab col dd k0 k1 k2 k3 k5 "Exception.__new__")) (hx:s.heap.get? x=some (excObj t0 none)) (ht:takerIn K 75 name=some none)
  (hs:findIn K (.ref 75) "__setattr__"=some (some (.builtin "object.__setattr__")))
  (h:∀ h' tk' dx,(∀ b o,b≠x→s.heap.get? b=some o→h'.get? b=some o)→h'.get? x=some (excObj t0 dx)→Q () { s with heap:=h',toks:=tk' }):
  wpAny (model prog w) A (setAttr (.ref x) name v) Q E s:=
 set_plain (od:=none) X ⟨hx,rfl,rfl,trivial⟩ hs (osaE (s:={ s with toks:=s.toks+1 }) X hC hx ht h)
theorem setX {K:Frag} (X:K.In s.heap) {x t0:Addr} {name:Str} {v:Value} {Q:Unit→Shared→Prop} (hC:IsExc (s.heap.get? 75)) (hx:s.heap.get? x=some (excObj t0 none)) (ht:takerIn K 75 name=some none)
  (hs:findIn K (.ref 75) "__setattr__"=some (some (.builtin "object.__setattr__")))
  (h:∀ h' tk' dx,(∀ b o,b≠x→s.heap.get? b=some o→h'.get? b=some o)→h'.get? x=some (excObj t0 dx)→Q () { s with heap:=h',toks:=tk' }):
  wpAny (model prog w) A (setAttr (.ref x) name v) Q E s:=by
 obtain ⟨_,_,_,_,_,_,_,_,_,_,_,_,_,_,hC⟩:=hC
 exact setE X hC hx ht hs h
end
end
section
open Builtin
structure Gx (g:Cx) (K:Frag):Prop where
 inb:K.In g.hb
 exc:exChk K=true
section
variable {g:Cx} {K:Frag}
theorem Gx.all (X:Gx g K):(((excOk (K.lookup 75)=true∧findIn K (.ref 75) "__setattr__"=some (some (.builtin "object.__setattr__")))∧findIn K (.ref 75) "__init__"=some (some (.ref 35)))∧takerIn K 75 "message"=some none)∧isFn K (.ref 35)=true:=by
 have h:=X.exc
 unfold exChk at h
 simp only [Bool.and_eq_true] at h
 exact ⟨⟨⟨⟨h.1.1.1.1,isBlt_get h.1.1.1.2⟩,isRef_get h.1.1.2⟩,isNon_get h.1.2⟩,h.2⟩
theorem Gx.cls (X:Gx g K):∃ o,IsExc (some o)∧g.hb.get? 75=some o:=by
 have h:=X.all.1.1.1.1
 cases e:K.lookup 75 with
|none=>rw [e] at h;cases h
|some o=>exact ⟨o,excOk_get (e▸h),X.inb _ _ e⟩
end
section
variable {g:Cx} {K:Frag} {T:Tabs} {C C':Cfg} {h h' h₁:Heap} {a a' a₁:Hp} {n m:Nat} {σ σ' σ₁:St} {sc:Scope} {vs vs' vs₁:Vars} {A:Around} {env:Env} {v u x y z:AV} {E:Value→Shared→Prop} {p:Pos}
theorem loc_x {k:Str} {s':Shared} (hE:EnvOk env sc) (V:VR g σ env vs) (e1:look k sc.names=some .local) (e2:look k vs=some v) {Q:Value→Shared→Prop} (kp:∀ o,σ.h.get? env.locals=some o→s'.heap.get? env.locals=some o)
  (h:∀ u,VRep σ.C v u→Q u s'):wpAny g.M A (eval (.Name k p) env) Q E s':=by
 obtain ⟨q1,q2,_⟩:=hE.nm k _ e1
 obtain ⟨m,F,hm⟩:=V.fr
 have q:=q1.resolve_right fun z=>nomatch z.1
 obtain ⟨u,e3,hu⟩:=hm k v e2 q
 exact wpAny_Name (wpAny_loadName_local hE.kind q (F.at kp) e3 (h u hu)) q2
theorem glob_x {k:Str} {s':Shared} {w:Value} (G:Gl g T) (hE:EnvOk env sc) (e1:look k sc.names=some .globalImplicit) (e2:T.glob k=some (.val w)) {Q:Value→Shared→Prop} (kp:∀ b o,g.hb.get? b=some o→s'.heap.get? b=some o)
  (h:Q w s'):wpAny g.M A (eval (.Name k p) env) Q E s':=by
 obtain ⟨q1,q2,_⟩:=hE.nm k _ e1
 obtain ⟨u,hg,hr⟩:=G.glob k _ e2
 obtain rfl:=(hr (⟨fun _ _=>False,fun _ _=>0,fun _=>none,g.hb.get?⟩:Cfg) fun _ _ e=>e).inv_val
 exact wpAny_Name (wpAny_loadGlobalName hE.kind (q1.resolve_right fun z=>nomatch z.1) (hg _ _ _ _ _ _ hE.glb hE.blt kp h)) q2
theorem evalArgs2 {x y:Expr} {q:Pos} {f:Value} {s:Shared} {Q:Args→Shared→Prop} (hx:noStar x=true) (hy:noStar y=true)
  (h:wpAny g.M A (eval x env) (fun u s₁=>wpAny g.M A (eval y env) (fun w s₂=>Q ⟨[u,w],[]⟩ s₂) E s₁) E s):wpAny g.M A (evalArgs f true (backTo q (starEach [x,y] env)) []) Q E s:=by
 rw [starEach_cons hx,starEach_cons hy]
 refine Calls.evalArgs_plain (Calls.spliced_cons (wpAny_mono h (fun u s₁ h₁=>Calls.spliced_cons (wpAny_mono h₁ (fun w s₂ h₂=>Calls.spliced_nil h₂) fun _ _ x=>x)) fun _ _ x=>x))
noncomputable abbrev fb35 (p:Nat→Pos):List Stmt:=[.Expr (.Call (.Attribute (.Name "Exception" (p 0)) "__init__" (p 1)) [.Name "self" (p 2),.Name "message" (p 3)] [] (p 4)) (p 5),.Assign [.Attribute (.Name "self" (p 6)) "message" (p 7)] (.Name "message" (p 8)) (p 9)]
theorem body35 {Q:Flow→Shared→Prop} (G:Gl g TT) (X:Gx g K) {p:Nat→Pos} (hl:((p 1).endLine==(p 4).line)=true) (i1:look "Exception" sc.names=some .globalImplicit) (i2:look "self" sc.names=some .local) (i3:look "message" sc.names=some .local)
  (hE:EnvOk env sc) {e t0:Addr} {m:Str} (v1:look "self" vs=some (.val (.ref e))) (v2:look "message" vs=some (.str m)) (V:VR g σ env vs) (ke:∀ b o,g.hb.get? b=some o→σ.h.get? b=some o) (he:σ.h.get? e=some (excObj t0 none)) (hbe:g.hb.get? e=none) (hne:env.locals≠e)
  (h:∀ f h' tk' t1 dx,(f=.next)→(∀ b o,b≠e→σ.h.get? b=some o→h'.get? b=some o)→h'.get? e=some (excObj t1 dx)→Q f { σ.s with heap:=h',toks:=tk' }):wpAny g.M A (execs (fb35 p) env) Q E σ.s:=by
 obtain ⟨oC,ec,hC⟩:=X.cls
 have hX:∀ {h:Heap},h.get? 75=g.hb.get? 75→IsExc (h.get? 75):=fun k=>k▸hC▸ec
 obtain ⟨⟨⟨⟨_,xs⟩,xi⟩,xt⟩,_⟩:=X.all
 have h75:(75:Addr)≠e:=fun z=>by rw [← z] at hbe;rw [hC] at hbe;cases hbe
 refine wpAny_execs_cons ?_
 refine wpAny_Expr_any ?_ ?_ ?_
 ·rw [arm_eval_Call]
  show wpAny _ _ (eval (.Name "Exception" (p 0)) env>>=_) _ _ _
  refine wpAny_bind (glob_x (w:=.type "Exception") G hE i1 (by kernel_rfl) ke ?_)
  refine wpAny_bind (wpAny_standAt ?_)
  unfold methodCall
  rw [show methodCallForm ([Expr.Name "self" (p 2),.Name "message" (p 3)].length+([]:List Keyword).length) (backTo (p 4) (starEach [Expr.Name "self" (p 2),.Name "message" (p 3)] env)) (backToKw (p 4) (keywordEach [] env))=true from rfl]
  refine wpAny_bind (wpAny_holding ?_)
  unfold calleeOf
  rw [if_pos rfl]
  obtain ⟨mm,F,_⟩:=V.fr
  refine excMeth F ?_
  refine wpAny_bind (wpAny_of_eq (show methodCallPos true _ env (p 1) (p 4)=pure (p 4) by unfold methodCallPos;simp [hl]) ?_)
  refine Calls.callWith_builtin rfl (evalArgs2 rfl rfl (loc_x hE V i2 v1 (fun _ e=>e) fun u r=>?_))
  obtain rfl:=r.inv_val
  refine loc_x hE V i3 v2 (fun _ e=>e) fun u r=>?_
  obtain ⟨tk,rfl,_⟩:=r.inv_str
  refine initX (s:={ σ.s with toks:=σ.s.toks+1 }) (hX ((ke _ _ hC).trans hC.symm)) he fun h₁ kp₁ he₁=>?_
  refine wpAny_execs_cons ?_
  rw [PyProof.Rows.exec_Assign]
  refine wpAny_bind (wpAny_standAt ?_)
  rw [show swapsWithSole [.Attribute (.Name "self" (p 6)) "message" (p 7)] (.Name "message" (p 8)) (p 9).line env=pure false from rfl]
  refine wpAny_bind (wpAny_pure ?_)
  rw [if_neg Bool.false_ne_true]
  have kl:∀ o,σ.h.get? env.locals=some o→h₁.get? env.locals=some o:=fun o z=>kp₁ _ o hne z
  refine wpAny_bind (loc_x hE V i3 v2 kl fun u r=>?_)
  obtain ⟨tk',rfl,_⟩:=r.inv_str
  rw [inOrder_of rfl]
  refine wpAny_bind (wpAny_pure ?_)
  unfold assignStores
  show wpAny _ _ (assign (.Attribute (.Name "self" (p 6)) "message" (p 7)) env (.str m tk')>>=_) _ _ _
  rw [arm_assign_Attribute]
  refine wpAny_bind (wpAny_bind (wpAny_holding (loc_x hE V i2 v1 kl fun u r=>?_)))
  obtain rfl:=r.inv_val
  have Xh:K.In h₁:=fun b o z=>kp₁ b o (fun q=>by rw [q] at z;rw [X.inb _ _ z] at hbe;cases hbe) (ke b o (X.inb b o z))
  refine wpAny_bind (wpAny_standAt (wpAny_bind (wpAny_holding (setX Xh (hX ((kp₁ _ _ h75 (ke _ _ hC)).trans hC.symm)) he₁ xt xs fun h₂ tk₂ dx kp₂ he₂=>?_))))
  refine wpAny_release' (wpAny_pure ?_)
  exact wpAny_execs_nil (h _ h₂ tk₂ _ dx rfl (fun b o hb z=>kp₂ b o hb (kp₁ b o hb z)) he₂)
 ·exact not_interactive hE
 ·rfl
noncomputable def d35:FnD:=(TT.fn 35).getD ⟨"",⟨[],[],none,[],[],none,[]⟩,[],[],⟨.function,[],false,false,[]⟩⟩
noncomputable def p35 (i:Nat):Pos:=([⟨8,8,8,17⟩,⟨8,8,8,26⟩,⟨8,27,8,31⟩,⟨8,33,8,40⟩,⟨8,8,8,41⟩,⟨8,8,8,41⟩,⟨9,8,9,12⟩,⟨9,8,9,20⟩,⟨9,23,9,30⟩,⟨9,8,9,30⟩]:List Pos).getD i ⟨0,0,0,0⟩
theorem init35 (G:Gl g TT) (X:Gx g K) {e t0:Addr} {m:Str} {tk:Tok} {Q:Value→Shared→Prop} (hR:Room (n+1) A) (O:Ok g σ.C σ.h a) (he:σ.h.get? e=some (excObj t0 none)) (hbe:g.hb.get? e=none) (hm:okS m=true)
  (h:∀ h' tk' t1 dx,(∀ b o,b≠e→σ.h.get? b=some o→h'.get? b=some o)→h'.get? e=some (excObj t1 dx)→Q .none { σ.s with heap:=h',toks:=tk' }):wpAny g.M A (call (.ref 35) [.ref e,.str m tk]) Q E σ.s:=by
 have hd:TT.fn 35=some d35:=by kernel_rfl
 have e1:bindP d35 [.val (.ref e),.str m]=some [(Str.ofString "self",.val (.ref e)),(Str.ofString "message",.str m)]:=by kernel_rfl
 have hb:d35.body=fb35 p35:=by kernel_rfl
 refine wpAny_call (fn_enter G hd e1 hR O (.cons (.val _) (.cons (.str _ _ hm) .nil)) fun env h₁ t₁ hf' _ E₁ hgn kp O₁ V₁=>codeAny_func ?_)
 rw [hb]
 have hne:env.locals≠e:=fun z=>by
  have:=hgn _ (.inl rfl)
  rw [z,he] at this;cases this
 refine body35 (m:=m) G X (p:=p35) (by kernel_rfl) (by kernel_rfl) (by kernel_rfl) (by kernel_rfl) E₁ (by kernel_rfl) (by kernel_rfl) V₁ (fun b o z=>kp b o (O.stays b o z)) (kp _ _ he) hbe hne fun f h' tk' t1 dx hf k1 k2=>?_
 subst hf
 exact h h' tk' t1 dx (fun b o hb z=>k1 b o hb (kp b o z)) k2
end
end
section
open Builtin
section
variable {M:Model} {A:Around} {E:Value→Shared→Prop} {env:Env}
theorem raise_made {s:Shared} {x:Sem Value} {Q:Flow→Shared→Prop} (hh:A.handled=none)
  (h:wpAny M A x (fun v s₁=>∃ e t dx,v=.ref e∧IsExc (s₁.heap.get? 75) ∧
   s₁.heap.get? e=some (excObj t dx)∧E (.ref e) s₁) E s):wpAny M A (raiseStmt env (some x) none) Q E s:=by
 have hcB:(Value.ref 75::mroE).contains (.type "BaseException")=true:=by decide
 unfold raiseStmt
 refine wpAny_bind (wpAny_mono h (fun v s₁ h₁=>?_) fun _ _ x=>x)
 obtain ⟨e,t,dx,rfl,⟨nm,q,N,bs,sn,sub,ab,col,dd,k0,k1,k2,k3,k5,hC⟩,he,hE⟩:=h₁
 obtain ⟨hp,g,d,tk,os⟩:=s₁
 repeat (first|with_reducible refine wpAny_loadPart_at he ?_|with_reducible refine wpAny_loadPart_at hC ?_|(with_reducible refine wpAny_isSubtype_exc hC ?_;rw [hcB])|wp_step)
 exact wpAny_raiseNew_none hh hE
end
section
variable {g:Cx} {K:Frag} {D:Nat→Prop} {a a₁:Hp} {n:Nat} {sc:Scope} {vs:Vars} {e:Expr} {m:Str} {np cpos pos:Pos}
theorem Fly.made {σ:St} {env:Env} {outer:List Env} {x t:Addr} {dx:Option Addr} (F:FrOk σ (env::outer)) (hx:σ.h.get? x=some (excObj t dx)):
  Fly (env::outer) (hideAll σ.h (x::frs (env::outer))) x none σ.h:=
 ⟨fun b o e=>of_hideAll _ e,hideAll_none _ (.head _),F.funs fun y hy=>hideAll_none _ (.tail _ hy),⟨_,_,_,hx,rfl,rfl,rfl,rfl⟩⟩
theorem SX.raise (G:Gl g TT) (X:Gx g K) (i1:look "SheetFault" sc.names=some .globalImplicit) (hs:noStar e=true) (H:EvR g (n+2) sc vs e a (.str m) a₁):
  SX g (n+2) D sc vs (.Raise (some (.Call (.Name "SheetFault" np) [e] [] cpos)) none pos) a a₁:=by
 intro A env σ outer Q E hA hf hF hR hE O V T
 obtain ⟨oC,ec,hC⟩:=X.cls
 have hX:∀ {h:Heap},(∀ b o,g.hb.get? b=some o→h.get? b=some o)→IsExc (h.get? 75):=fun k=>k _ _ hC▸ec
 obtain ⟨⟨_,xi⟩,_⟩:=X.all.1
 have xf:=X.all.2
 show wpAny g.M A (do standAt pos;raiseStmt env (some (do let v ← (eval (.Name "SheetFault" np) env>>=fun fv=>callWith cpos fv [] (backTo cpos (starEach [e] env)) []);standAt pos;pure v)) none) Q E σ.s
 refine wpAny_bind (wpAny_standAt (raise_made hR.handled (wpAny_bind ?_)))
 refine wpAny_bind (glob_x (w:=.ref 75) G hE i1 (by kernel_rfl) O.stays ?_)
 unfold callWith
 refine wpAny_bind (wpAny_holding (EsR.args (by rw [List.all_cons,hs];rfl) (.cons hs H .nil) hR hE O V fun us σ₁ x₁ O₁ r₁=>wpAny_bind (wpAny_standAt ?_)))
 cases r₁ with|cons r r₁=>
 cases r₁
 obtain ⟨tk,rfl,hm⟩:=r.inv_str
 have hpl:(backTo cpos (starEach [e] env)).any (·.1)=false:=(plain_es (es:=[e]) (by rw [List.all_cons,hs];rfl)).1
 simp only [hpl]
 have X₁:K.In σ₁.h:=X.inb.keeps O₁.stays
 refine wpAny_bind (keepX (hX O₁.stays) ?_)
 refine wpAny_bind (callX X₁ xf xi (hX O₁.stays) (fun h₁ x hm₁=>?_) (show 1≤sizeLine by decide))
 obtain ⟨t0,ht,_,_⟩:=hm₁.there
 refine init35 (σ:=⟨σ₁.C,{ σ₁.s with heap:=h₁ }⟩) G X (inst_room (k:=75) (vals:=[.str m tk]) hR) (O₁.grow hm₁.keeps) ht (O₁.hb_none hm₁.new) hm fun h₂ tk₂ t1 dx k2 hx=>?_
 refine ⟨rfl,wpAny_bind (wpAny_holding (wpAny_point (wpAny_pure (wpAny_bind (wpAny_standAt (wpAny_pure ?_))))))⟩
 have kp:∀ b o,σ₁.h.get? b=some o→h₂.get? b=some o:=fun b o z=>k2 b o (fun w=>by rw [w,hm₁.new] at z;cases z) (hm₁.keeps b o z)
 obtain ⟨C₂,x₂,O₂,M,p₂,q₂⟩:=x₁.iter O O₁ (t:=tk₂) (I:=fun y=>y=x) (h':=h₂) (fun y hy=>hy▸⟨hm₁.new,_,hx⟩) kp
 refine ⟨x,t1,dx,rfl,hX fun b o z=>kp b o (O₁.stays b o z),hx,?_⟩
 have F₂:FrOk (σ₁.at C₂ h₂ tk₂) (env::outer):=.push (FrOk.mono hF (x₂.wD (b:=false) (D:=D))) (V.ext x₂) hE hf
 refine T x (σ₁.at C₂ h₂ tk₂) h₂ (hideAll h₂ (x::frs (env::outer))) (fun y=>y∈x::frs (env::outer)) none x₂.wD O₂ ⟨fun b o z hb=>hideAll_get _ z hb,fun y hy=>?_,fun y hy=>?_,fun y o z hy=>?_,.made F₂ hx,.refl _⟩ (.inl rfl)
 ·rcases List.mem_cons.mp hy with rfl|hy
  ·exact .inr (p₂ _ rfl)
  ·obtain ⟨en,he,hy⟩:=List.mem_filterMap.mp hy
   obtain ⟨_,L,o,h2,h3,_⟩:=F₂ en he
   obtain rfl:=Option.some.inj (h2.symm.trans hy)
   exact h3.symm
 ·rcases List.mem_cons.mp hy with rfl|hy
  ·exact .inl rfl
  ·obtain ⟨en,he,hy⟩:=List.mem_filterMap.mp hy
   obtain ⟨_,L,o,h2,_,h3,h4⟩:=F₂ en he
   obtain rfl:=Option.some.inj (h2.symm.trans hy)
   exact .inr ⟨o,h3,h4⟩
 ·rcases List.mem_cons.mp hy with rfl|hy
  ·have:=(q₂ y rfl).1
   rw [this] at z;cases z
  ·exact hy
end
end
theorem execs_app (l r:List Stmt) (env:Env):execs (l++r) env=(execs l env>>=fun f=>match f with|.next=>execs r env|f=>pure f):=by
 induction l with
|nil=>rfl
|cons s l ih=>
  rw [List.cons_append,execs_cons,execs_cons,ih]
  rw [LawfulMonad.bind_assoc]
  refine congrArg _ (funext fun f=>?_)
  cases f<;>rfl
theorem wpAny_execs_app {M:Model} {A:Around} {E:Value→Shared→Prop} {s:Shared} {env:Env} {l r:List Stmt} {Q:Flow→Shared→Prop} (h:wpAny M A (execs l env) (fun f s'=>match f with|.next=>wpAny M A (execs r env) Q E s'|f=>Q f s') E s):wpAny M A (execs (l++r) env) Q E s:=by
 rw [execs_app]
 refine wpAny_bind (wpAny_mono h (fun f s' h'=>?_) fun _ _ x=>x)
 cases f<;>first|exact h'|exact wpAny_pure h'
theorem SsX.app {g:Cx} {D:Nat→Prop} {n:Nat} {sc:Scope} {vs vs₁:Vars} {l r:List Stmt} {a a₁ a':Hp} (H:SsR g n D sc vs l a .next vs₁ a₁) (K:SsX g n D sc vs₁ r a₁ a'):SsX g n D sc vs (l++r) a a':=fun A env σ outer Q E hA hf hF hR hE O V T=>
 wpAny_execs_app (H A env σ hR hE O V _ E fun _ σ₁ F x O₁ V₁=>by
  cases F
  exact K A env σ₁ outer Q E hA hf (FrOk.mono hF x) hR hE O₁ V₁ (T.after x))
theorem splN_grow (s:Str) (i:Nat):∀ k,∃ l,(splN s (i+k)).1=(splN s i).1++l
|0=>⟨[],(List.append_nil _).symm⟩
|k+1=>by
  obtain ⟨l,e⟩:=splN_grow s i k
  show ∃ l,(splStep s (i+k) (splN s (i+k))).1=_
  unfold splStep
  cases (s.cps.toList[i+k]?.map isSp).getD true with
 |true=>
   cases Nat.blt (splN s (i+k)).2 (i+k) with
  |true=>exact ⟨l++[_],by show (splN s (i+k)).1++[_]=_;rw [e,List.append_assoc]⟩
  |false=>exact ⟨l,e⟩
 |false=>exact ⟨l,e⟩
theorem spl_nob (x:Str):∃ l,spl (NOB++Str.ofString " "++x)=NOB::l:=by
 have hs:(NOB++Str.ofString " "++x).cps.toList=[110,111,98,111,100,121,32]++x.cps.toList:=by
  show ((NOB.cps++(Str.ofString " ").cps)++x.cps).toList=_
  rw [Array.toList_append]
  rfl
 have h7:∀ s:Str,s.cps.toList=[110,111,98,111,100,121,32]++x.cps.toList→(splN s 7).1=[NOB]:=fun s e=>by
  have g:∀ i,i<7→s.cps.toList[i]?=[110,111,98,111,100,121,32][i]?:=fun i hi=>by rw [e,List.getElem?_append_left hi]
  have n0:∀ i c f,s.cps.toList[i]?=some c→isSp c=false→splStep s i f=f:=fun i c f z w=>by unfold splStep;rw [z];show (bif isSp c then _ else f)=f;rw [w];rfl
  have e6:splN s 6=([],0):=by
   show splStep s 5 (splStep s 4 (splStep s 3 (splStep s 2 (splStep s 1 (splStep s 0 ([],0))))))=_
   rw [n0 0 110 _ (g 0 (by decide)) (by kernel_rfl),n0 1 111 _ (g 1 (by decide)) (by kernel_rfl),n0 2 98 _ (g 2 (by decide)) (by kernel_rfl),n0 3 111 _ (g 3 (by decide)) (by kernel_rfl),n0 4 100 _ (g 4 (by decide)) (by kernel_rfl),n0 5 121 _ (g 5 (by decide)) (by kernel_rfl)]
  show (splStep s 6 (splN s 6)).1=_
  rw [e6]
  unfold splStep
  rw [g 6 (by decide),show (([110,111,98,111,100,121,32][6]?.map isSp).getD true)=true by kernel_rfl]
  show [subst s 0 6]=_
  unfold subst
  rw [e]
  rfl
 obtain ⟨l,e⟩:=splN_grow (NOB++Str.ofString " "++x) 7 (x.cps.toList.length+1)
 refine ⟨l,?_⟩
 unfold spl
 rw [show (NOB++Str.ofString " "++x).cps.toList.length+1=7+(x.cps.toList.length+1) by rw [hs,List.length_append];show 7+_+1=_;omega,e,h7 _ hs]
 rfl
section
variable {g:Cx} {D D':Nat→Prop} {b:Bool} {n:Nat} {sc:Scope} {vs vs₁:Vars} {st:Stmt} {ss l r:List Stmt} {a a₁ a':Hp} {σ:St} {en:List Env} {ok:Option Value→Prop} {E:Value→Shared→Prop}
theorem Thr.weak (hd:∀ i,D' i→D i) (T:Thr g D' b en ok σ a' E):Thr g D b en ok σ a' E:=fun e σ' h' B X fl x=>T e σ' h' B X fl ⟨{ x.ext with rho:=fun n p d=>x.ext.rho n p (hd n d) },x.same⟩
theorem SX.weak (hd:∀ i,D' i→D i) (H:SX g n D sc vs st a a'):SX g n D' sc vs st a a':=fun A env σ outer Q E hA hf hF hR hE O V T=>H A env σ outer Q E hA hf hF hR hE O V (T.weak hd)
end
noncomputable def msg193:Expr:=.BinOp (.BinOp (.Constant (.str (Str.ofString "the prefix ")) 0 ⟨106,37,106,50⟩) .Add (.Name (Str.ofString "prefix") ⟨106,53,106,59⟩) ⟨106,37,106,59⟩) .Add (.Constant (.str (Str.ofString " is not bound")) 0 ⟨106,62,106,77⟩) ⟨106,37,106,77⟩
theorem st1_is:stF 193 [] 1=.For (forT (stF 193 [] 1)) (exF 193 [] 1 []) (ssF 193 [1]) [] ⟨97,4,107,43⟩:=by kernel_rfl
theorem st10_is:stF 193 [1] 0=.If (exF 193 [1] 0 []) (ssF 193 [1,0]) [] ⟨98,8,107,43⟩:=by kernel_rfl
theorem st104_is:stF 193 [1,0] 4=.For (forT (stF 193 [1,0] 4)) (exF 193 [1,0] 4 []) (ssF 193 [1,0,4]) [] ⟨103,12,107,43⟩:=by kernel_rfl
theorem st1041_is:stF 193 [1,0,4] 1=.If (exF 193 [1,0,4] 1 []) (ssF 193 [1,0,4,1]) [] ⟨105,16,106,78⟩:=by kernel_rfl
theorem ss1041_is:ssF 193 [1,0,4,1]=[.Raise (some (.Call (.Name (Str.ofString "SheetFault") ⟨106,26,106,36⟩) [msg193] [] ⟨106,26,106,78⟩)) none ⟨106,20,106,78⟩]:=by kernel_rfl
theorem SX.is {g:Cx} {n:Nat} {D:Nat→Prop} {sc:Scope} {vs:Vars} {st st':Stmt} {a a':Hp} (e:st=st') (H:SX g n D sc vs st' a a'):SX g n D sc vs st a a':=e▸H
section
noncomputable def part1 (l:List Stmt):List Stmt:=l.take 4
end
section
variable {g:Cx} (G:Gl g TT) (n:Nat)
include G
theorem xx_found {t:List Row} {k:Nat}:SsR g (n+4) (fun i=>i<2) (scF 193) [("tree",L0),("element",.nat k)] (part 0 1 (ssF 193 [])) [.tree t] .next ([("tree",L0),("element",.nat k),("found",L1)]) ([.tree t,.txs ["http://www.w3.org/1999/XSL/Transform"]]):=
 .gz G [.k 1] .n
theorem xx_lines {t:List Row} {k:Nat} {F:List Str} (H:LineOk t k) (hk:k<900):EvR g (n+5) (scF 193) [("tree",L0),("element",.nat k),("found",L1)] (exF 193 [] 1 []) [.tree t,.txs F] L2 ([.tree t,.txs F,.ixs (List.range (k+1))]):=
 .gz G [.call [0] L1 [.tree t,.ixs (List.range (k+1))]] (.c (lines_cr G (n+1) H hk) .n)
theorem xx_kind {t:List Row} {k i:Nat} {F:List Str} {R:List Nat} {w:Row} (hw:t[i]?=some w) (hk:strB w.kind (Str.ofString "element")=true):TvR g (n+5) (scF 193) (setL "above" (.nat i) [("tree",L0),("element",.nat k),("found",L1)]) (exF 193 [1] 0 []) [.tree t,.txs F,.ixs R] (true) ([.tree t,.txs F,.ixs R]):=
 .gz G [.call [0] (.str w.kind) [.tree t],.b true] (.c (kind_cr G (n+2) hw) (.c hk .n))
theorem xx_elT {t:List Row} {es:List El} {i k:Nat} {F:List Str} {R:List Nat} {w:Row} {ats:List (Str×Str×Str)} (tv:TV t es) (fw:Few es) (hi:i+1≤es.length) (hw:t[i+1]?=some w) (H:AtOk t (i+1) w.at_ ats) (hu:strB w.uri XSLTU=true) (h1:((attrOf EXCS "" ats).getD "").cps.toList.length≤200) (h2:((attrOf EXTS "" ats).getD "").cps.toList.length≤200):SsR g (n+5) (fun i=>i<3) (scF 193) (setL "above" (.nat (i+1)) [("tree",L0),("element",.nat k),("found",L1)]) (part 0 4 (ssF 193 [1,0])) [.tree t,.txs F,.ixs R] .next ([("tree",L0),("element",.nat k),("found",L1),("scope",L3),("names",.str ((attrOf EXCS "" ats).getD ("")++Str.ofString " "++(attrOf EXTS "" ats).getD ""))]) ([.tree t,.txs F,.ixs R,.dss (scopeN es (i+2))]):=
 .gz G [.call [0] (.str w.uri) [.tree t],.b true,.s,.call [0] L1 [.tree t,.dss (scopeN es (i+2))],.s,.exp (.str ((attrOf EXCS "" ats).getD "")) [.tree t,.txs F,.ixs R,.dss (scopeN es (i+2))],.s,.o,.exp (.str ((attrOf EXTS "" ats).getD "")) [.tree t,.txs F,.ixs R,.dss (scopeN es (i+2))],.o,.gc [0,1,2,3] ["tree","element","found","scope","names"]] (.c (uri_cr G (n+2) hw) (.c hu (.c (scope_cr G n tv fw hi) (.c (ex_or1 G (n+1) hw H:EvR g (n+4+1) (scF 193) [("tree",L0),("element",.nat k),("found",L1),("above",.nat (i+1)),("uri",.str ""),("scope",L3)] (exF 193 [1,0] 2 []) [.tree t,.txs F,.ixs R,.dss (scopeN es (i+2))] (.str ((attrOf EXCS "" ats).getD "")) [.tree t,.txs F,.ixs R,.dss (scopeN es (i+2))]) (.c (ex_cap1 h1) (.c (ex_or2 G (n+1) hw H:EvR g (n+4+1) (scF 193) [("tree",L0),("element",.nat k),("found",L1),("above",.nat (i+1)),("uri",.str ""),("scope",L3),("names",.str ((attrOf EXCS "" ats).getD ""))] (exF 193 [1,0] 3 [1]) [.tree t,.txs F,.ixs R,.dss (scopeN es (i+2))] (.str ((attrOf EXTS "" ats).getD "")) [.tree t,.txs F,.ixs R,.dss (scopeN es (i+2))]) (.c (ex_cap2 h1 h2) .n)))))))
theorem xx_elF {t:List Row} {es:List El} {i k:Nat} {F:List Str} {R:List Nat} {w:Row} {ats:List (Str×Str×Str)} (tv:TV t es) (fw:Few es) (hi:i+1≤es.length) (hw:t[i+1]?=some w) (H:AtOk t (i+1) w.at_ ats) (hu:strB w.uri XSLTU=false) (h1:((attrOf EXCS XSLTU ats).getD "").cps.toList.length≤200) (h2:((attrOf EXTS XSLTU ats).getD "").cps.toList.length≤200):SsR g (n+5) (fun i=>i<3) (scF 193) (setL "above" (.nat (i+1)) [("tree",L0),("element",.nat k),("found",L1)]) (part 0 4 (ssF 193 [1,0])) [.tree t,.txs F,.ixs R] .next ([("tree",L0),("element",.nat k),("found",L1),("scope",L3),("names",.str ((attrOf EXCS XSLTU ats).getD ("")++Str.ofString " "++(attrOf EXTS XSLTU ats).getD ""))]) ([.tree t,.txs F,.ixs R,.dss (scopeN es (i+2))]):=
 .gz G [.call [0] (.str w.uri) [.tree t],.b false,.s,.call [0] L1 [.tree t,.dss (scopeN es (i+2))],.s,.exp (.str ((attrOf EXCS XSLTU ats).getD "")) [.tree t,.txs F,.ixs R,.dss (scopeN es (i+2))],.s,.o,.exp (.str ((attrOf EXTS XSLTU ats).getD "")) [.tree t,.txs F,.ixs R,.dss (scopeN es (i+2))],.o,.gc [0,1,2,3] ["tree","element","found","scope","names"]] (.c (uri_cr G (n+2) hw) (.c hu (.c (scope_cr G n tv fw hi) (.c (ex_or1 G (n+1) hw H:EvR g (n+4+1) (scF 193) [("tree",L0),("element",.nat k),("found",L1),("above",.nat (i+1)),("uri",.str "http://www.w3.org/1999/XSL/Transform"),("scope",L3)] (exF 193 [1,0] 2 []) [.tree t,.txs F,.ixs R,.dss (scopeN es (i+2))] (.str ((attrOf EXCS XSLTU ats).getD "")) [.tree t,.txs F,.ixs R,.dss (scopeN es (i+2))]) (.c (ex_cap1 h1) (.c (ex_or2 G (n+1) hw H:EvR g (n+4+1) (scF 193) [("tree",L0),("element",.nat k),("found",L1),("above",.nat (i+1)),("uri",.str "http://www.w3.org/1999/XSL/Transform"),("scope",L3),("names",.str ((attrOf EXCS XSLTU ats).getD ""))] (exF 193 [1,0] 3 [1]) [.tree t,.txs F,.ixs R,.dss (scopeN es (i+2))] (.str ((attrOf EXTS XSLTU ats).getD "")) [.tree t,.txs F,.ixs R,.dss (scopeN es (i+2))]) (.c (ex_cap2 h1 h2) .n)))))))
theorem xx_spl {t:List Row} {k:Nat} {F:List Str} {R:List Nat} {sc:SS} {nm:Str} (hl:nm.cps.toList.length<1000):EvR g (n+5) (scF 193) [("tree",L0),("element",.nat k),("found",L1),("scope",L3),("names",.str nm)] (exF 193 [1,0] 4 []) [.tree t,.txs F,.ixs R,.dss sc] L4 ([.tree t,.txs F,.ixs R,.dss sc,.txs (spl nm)]):=
 .gz G [.call [] L0 [.txs (spl nm)]] (.c (spl_cr G (n+2) hl) .n)
theorem xx_pre {t:List Row} {k:Nat} {F W:List Str} {R:List Nat} {sc:SS} {nm:Str}:SsR g (n+4) (fun i=>i<5) (scF 193) (setL "prefix" (.str NOB) [("tree",L0),("element",.nat k),("found",L1),("scope",L3),("names",.str nm)]) (part 0 1 (ssF 193 [1,0,4])) [.tree t,.txs F,.ixs R,.dss sc,.txs W] .next ([("tree",L0),("element",.nat k),("found",L1),("scope",L3),("names",.str nm),("prefix",.str NOB)]) ([.tree t,.txs F,.ixs R,.dss sc,.txs W]):=
 .gz G [.c] .n
theorem xx_in {t:List Row} {k:Nat} {F W:List Str} {R:List Nat} {sc:SS} {nm:Str} (hq:look NOB sc=none):TvR g (n+5) (scF 193) (setL "prefix" (.str NOB) [("tree",L0),("element",.nat k),("found",L1),("scope",L3),("names",.str nm)]) (exF 193 [1,0,4] 1 []) [.tree t,.txs F,.ixs R,.dss sc,.txs W] (true) ([.tree t,.txs F,.ixs R,.dss sc,.txs W]):=
 .gz G [.b true] (.c ((by rw [hq];rfl):(!(look NOB sc).isSome)=true) .n)
theorem xx_msg {t:List Row} {k:Nat} {F W:List Str} {R:List Nat} {sc:SS} {nm:Str}:EvR g (n+5) (scF 193) (setL "prefix" (.str NOB) [("tree",L0),("element",.nat k),("found",L1),("scope",L3),("names",.str nm)]) msg193 [.tree t,.txs F,.ixs R,.dss sc,.txs W] (.str (Str.ofString "the prefix "++NOB++Str.ofString " is not bound")) ([.tree t,.txs F,.ixs R,.dss sc,.txs W]):=
 .gz G [.c,.c] .n
theorem ex_raiseIn {K:Frag} (X:Gx g K) {t:List Row} {k:Nat} {F W:List Str} {R:List Nat} {sc:SS} {nm:Str} (hW:spl nm=NOB::W) (hl:nm.cps.toList.length<1000) (hq:look NOB sc=none):
  SX g (n+5) (fun i=>i<5) (scF 193) [("tree",L0),("element",.nat k),("found",L1),("scope",L3),("names",.str nm)] (stF 193 [1,0] 4) [.tree t,.txs F,.ixs R,.dss sc] [.tree t,.txs F,.ixs R,.dss sc,.txs (NOB::W)]:=by
 have I:=xx_spl G n (t:=t) (k:=k) (F:=F) (R:=R) (sc:=sc) hl
 rw [hW] at I
 refine .is st104_is (.for (src:=.lst L4) (k:=0) (.plain (by kernel_rfl) I (listOf_of rfl rfl)) (VIn.loc (Nat.le_of_ble_eq_true rfl)) (fun z=>nomatch z) (.raise (x:=.str NOB) (by rw [srcAt_txs rfl];rfl) (.nm (k:=Str.ofString "prefix") (by kernel_rfl)) ?_))
 show SsX g (n+5) _ (scF 193) _ (ssF 193 [1,0,4]) _ _
 rw [show ssF 193 [1,0,4]=part 0 1 (ssF 193 [1,0,4])++(stF 193 [1,0,4] 1::part 2 1 (ssF 193 [1,0,4])) by kernel_rfl]
 refine .app (xx_pre G (n+1)) (.head (.is st1041_is (.if (xx_in G n hq) ?_)))
 rw [ss1041_is]
 exact .head (.raise (n:=n+3) G X (by kernel_rfl) rfl (xx_msg G n))
theorem ex_raise1 {K:Frag} (X:Gx g K) {t:List Row} {es:List El} {e:El} {k:Nat} {F:List Str} {R:List Nat} (Rf:Refuse t es e):∃ W,SsX g (n+5) (fun i=>i<3) (scF 193) (setL "above" (.nat 2) [("tree",L0),("element",.nat k),("found",L1)]) (ssF 193 [1]) [.tree t,.txs F,.ixs R] [.tree t,.txs F,.ixs R,.dss (scopeN es (1+2)),.txs W]:=by
 obtain ⟨w,hw,hk,_,hu,_,H⟩:=Rf.tv.el 1 e Rf.at1
 have hi:1+1≤es.length:=by rw [Rf.len];exact Nat.le_succ 2
 have hn:((attrOf EXCS (elU e.uri) e.ats).getD "")=NOB:=by rw [Rf.nob];rfl
 have l1:NOB.cps.toList.length≤200:=Nat.le_of_ble_eq_true (by kernel_rfl)
 have l2:=Rf.ext
 unfold extS at l2
 obtain ⟨W,hW⟩:=spl_nob ((attrOf EXTS (elU e.uri) e.ats).getD "")
 refine ⟨NOB::W,?_⟩
 rw [show ssF 193 [1]=[stF 193 [1] 0] by kernel_rfl]
 refine .head (.is st10_is (.if (xx_kind G n hw (by rw [hk];exact strB_self _)) ?_))
 rw [show ssF 193 [1,0]=part 0 4 (ssF 193 [1,0])++[stF 193 [1,0] 4] by kernel_rfl]
 have fin:=ex_raiseIn G n X (t:=t) (k:=k) (F:=F) (R:=R) (sc:=scopeN es (1+2)) hW (ex_len l1 l2) Rf.keys
 cases z:strB e.uri XSLTU with
|true=>
  have eu:elU e.uri=Str.ofString "":=by unfold elU;rw [z];rfl
  rw [eu] at hn l2 fin
  have st:=xx_elT G n (k:=k) (F:=F) (R:=R) Rf.tv Rf.few hi hw H (by rw [hu];exact z) (by rw [hn];exact l1) l2
  rw [hn] at st
  exact .app st (.head (fin.weak fun i h=>Nat.lt_of_lt_of_le h (by decide)))
|false=>
  have eu:elU e.uri=XSLTU:=by unfold elU;rw [z];rfl
  rw [eu] at hn l2 fin
  have st:=xx_elF G n (k:=k) (F:=F) (R:=R) Rf.tv Rf.few hi hw H (by rw [hu];exact z) (by rw [hn];exact l1) l2
  rw [hn] at st
  exact .app st (.head (fin.weak fun i h=>Nat.lt_of_lt_of_le h (by decide)))
theorem exc_raises {K:Frag} (X:Gx g K) {t:List Row} {es:List El} {e:El} (Rf:Refuse t es e):∃ F R S W,CX g (n+6) (fun i=>i<1) 193 [L0,.nat 3] [.tree t] [.tree t,.txs F,.ixs R,.dss S,.txs W]:=by
 obtain ⟨W,H⟩:=ex_raise1 G n X (k:=3) (F:=goneN es 2) (R:=List.range (3+1)) Rf
 have tv:=Rf.tv
 obtain ⟨r,h1,h2,_⟩:=tv.root
 have h0:0<es.length:=by rw [Rf.len];exact Nat.succ_pos 2
 have he:=List.getElem?_eq_getElem h0
 have wd:=Rf.wd0 0 _ he (Nat.succ_pos 0)
 have t0:=ex_root G n (k:=3) (F:=goneN es 0) (R:=List.range (3+1)) h1 (by rw [h2];rfl)
 have t1:=ex_step G n (k:=3) (F:=goneN es 0) (R:=List.range (3+1)) tv Rf.few he wd (by
  have a:=(splN_le (namesS es[0]) ((namesS es[0]).cps.toList.length+1)).2
  have b:=ex_len wd.short.1 wd.short.2
  have c:(spl (namesS es[0])).length<1001:=Nat.lt_of_le_of_lt a (Nat.succ_lt_succ b)
  show 1+_<_
  omega)
 have e1:goneN es 2=goneN es 0++(spl (namesS es[0])).map (goneF (scopeN es (0+2))):=by
  show (goneN es 0++[])++(es[0]?.map fun e=>(spl (namesS e)).map (goneF (scopeN es (0+2)))).getD []=_
  rw [he,List.append_nil];rfl
 rw [← e1] at t1
 refine ⟨goneN es 2,List.range (3+1),scopeN es (1+2),W,.fn G (d:=(fnAt 193).getD ⟨"",⟨[],[],none,[],[],none,[]⟩,[],[],⟨.function,[],false,false,[]⟩⟩) (by kernel_rfl) (vs:=[("tree",L0),("element",.nat 3)]) (by kernel_rfl) ?_⟩
 show SsX g (n+5) (fun i=>i<1) (scF 193) _ (ssF 193 []) _ _
 rw [show ssF 193 []=part 0 1 (ssF 193 [])++(stF 193 [] 1::part 2 1 (ssF 193 [])) by kernel_rfl]
 refine .app ((xx_found G (n+1) (t:=t) (k:=3)).weak fun i h=>Nat.lt_of_lt_of_le h (by decide)) (.head (SX.weak (D:=fun i=>i<3) (fun i h=>Nat.lt_of_lt_of_le h (by decide)) ?_))
 refine .is st1_is (.for (src:=.lst L2) (k:=2) (.plain (by kernel_rfl) (xx_lines G n (tv.line (by rw [Rf.len];exact Nat.le_refl _)) (by decide)) (listOf_of rfl rfl)) (VIn.loc (Nat.le_of_ble_eq_true rfl)) (fun z=>nomatch z) ?_)
 refine .turn (x:=.nat 0) (by rw [srcAt_ixs rfl];rfl) (.nm (k:=Str.ofString "above") (by kernel_rfl)) t0 (.turn (x:=.nat 1) (by rw [srcAt_ixs rfl];rfl) (.nm (k:=Str.ofString "above") (by kernel_rfl)) t1 (.raise (x:=.nat 2) (by rw [srcAt_ixs rfl];rfl) (.nm (k:=Str.ofString "above") (by kernel_rfl)) H))
end
section
variable {g:Cx} {K:Frag} {T:Tabs} {D:Nat→Prop} {C C' C₁:Cfg} {h h' h₁ h₂:Heap} {a a' a₁:Hp} {n m:Nat} {σ σ' σ₁:St} {sc:Scope} {vs vs' vs₁:Vars} {A:Around} {env:Env} {l outer:List Env} {E:Value→Shared→Prop} {np pos p1 p2:Pos} {B:Heap} {e:Addr} {s:Shared}
theorem caught {rest:List ExceptHandler} {Q:Flow→Shared→Prop} (G:Gl g TT) (X:Gx g K) (hE:EnvOk env sc) (i1:look "SheetFault" sc.names=some .globalImplicit) (hA:A.frames=some (env::outer)) (hf:env.frame=some env.locals) (hB:∀ b o,g.hb.get? b=some o→B.get? b=some o)
  (F:Fly (env::outer) B e (some .none) s.heap) (h:∀ h',Fly (env::outer) B e (some .none) h'→s.heap.UpToSlots h'→Q (.ret (.bool true)) { s with heap:=h' }):
  wpAny g.M A (noteFrame (.ref e) env) (fun _ s₂=>wpAny g.M A (setFlight (.ref e) none) (fun _ s₃=>wpAny g.M A (handleBy (.ref e) env (.ExceptHandler (some (.Name "SheetFault" np)) none [.Return (some (.Constant (.bool true) 0 p1)) p2] pos::rest)) Q E s₃) E s₂) E s:=by
 obtain ⟨oC,⟨nm,q,N,bs,sn,sub,ab,col,dd,k0,k1,k2,k3,k5,ec⟩,hC⟩:=X.cls
 obtain rfl:=Option.some.inj ec
 refine F.note hA hf (.inr (.inl rfl)) fun h₁ F₁ k₁=>?_
 refine Fly.land (s:={ s with heap:=h₁ }) F₁ fun h₂ F₂ k₂=>?_
 refine wpAny_handleBy_cons (codeAny_handlers_test ?_) (fun z=>by cases z)
 refine glob_x (w:=.ref 75) G hE i1 (by kernel_rfl) (fun b o z=>F₂.stay b o (hB b o z)) ?_
 obtain ⟨oe,he,hc⟩:=Fly.there (s:={ s with heap:=h₂ }) F₂
 refine wpAny_excMatches_sub_self (F₂.stay _ _ (hB _ _ hC)) he hc (by decide) ?_
 refine codeAny_handlers_suite ?_
 refine Fly.land (s:={ s with heap:=h₂ }) F₂ fun h₃ F₃ k₃=>?_
 refine wpAny_execs_cons ?_
 rw [exec_Return_some]
 exact wpAny_bind (wpAny_standAt (wpAny_bind (Constant_bool (wpAny_pure (h h₃ F₃ ((k₁.trans k₂).trans k₃))))))
open Classical in
noncomputable def Cfg.lend (C:Cfg) (I:Addr→Prop):Cfg:={ C with own:=fun y=>if I y then some .lcl else C.own y }
theorem Cfg.lend_in {I:Addr→Prop} {y:Addr} (h:I y):(C.lend I).own y=some .lcl:=if_pos h
theorem Cfg.lend_out {I:Addr→Prop} {y:Addr} (h:¬ I y):(C.lend I).own y=C.own y:=if_neg h
theorem Cfg.lend_more {I:Addr→Prop}:More C (C.lend I):=⟨fun _ _ e=>⟨e,rfl⟩,fun _ _ e=>e⟩
theorem Ok.lend (O:Ok g C h a) {I:Addr→Prop} (hI:∀ y,I y→C.own y=some .prv):Ok g (C.lend I) h a:=by
 have no:∀ x u,C.own x=u→u≠some .prv→¬ I x:=fun x u e hn q=>hn (e.symm.trans (hI x q))
 refine ⟨fun x o e=>have z:=O.fz x o e;⟨z.1,(Cfg.lend_out (no x _ z.2 (fun w=>nomatch w))).trans z.2⟩,O.base,fun x u e=>?_,O.N,fun m o p po e1 e2=>by obtain ⟨q0,q1,q2⟩:=O.at_ m o p po e1 e2;exact ⟨q0,(Cfg.lend_out (no _ _ q1 (fun w=>nomatch w))).trans q1,q2.mono Cfg.lend_more q0⟩,O.dv⟩
 by_cases q:I x
 ·exact O.live x _ (hI x q)
 ·exact O.live x u ((Cfg.lend_out q).symm.trans e)
theorem Ext.lam (O:Ok g C h a) {l I:Addr→Prop} (hg:∀ y,l y→h.get? y=none) (hI:∀ y,I y→C.own y=some .prv) (k:∀ x o,h.get? x=some o→h₁.get? x=some o) (x:Ext D true ((C.enter l).lend I) h₁ C' h₂):Ext D true C h (C.exit C') h₂:=by
 have gn:∀ y o,h.get? y=some o→¬ l y:=fun y o e z=>nomatch e.symm.trans (hg y z)
 have gi:∀ y u,C.own y=u→u≠some .prv→¬ I y:=fun y u e hn q=>hn (e.symm.trans (hI y q))
 have en:∀ y o u,h.get? y=some o→C.own y=u→u≠some .prv→((C.enter l).lend I).own y=enterO u:=fun y o u e w hn=>(Cfg.lend_out (gi y u w hn)).trans (Cfg.enter_old (gn y o e) w)
 have pv:∀ y o,h.get? y=some o→C.own y=some .prv→C'.own y=some .lcl∨C'.own y=some .prv:=fun y o e w=>by
  by_cases q:I y
  ·exact .inl (x.lcl y (Cfg.lend_in q))
  ·exact .inr (x.prv y ((Cfg.lend_out q).trans (Cfg.enter_old (gn y o e) w)))
 have lv:∀ y u,C.own y=some u→∃ o,h.get? y=some o:=O.live
 refine ⟨x.rho,x.fz,fun y o e m _=>x.keep y o (k y o e) (fun z=>m ?_) (.inl rfl),fun y o e=>x.live y o (k y o e),fun y o e q=>Cfg.exit_at q (x.free y o (k y o e) (en y o _ e q (fun w=>nomatch w))),fun y q=>?_,fun y q=>?_,fun y o e=>?_,fun y q=>.inl (exitO_lcl q)⟩
 ·rcases own_cases C y with q|q|q|q
  ·exact absurd z (nmut_none (en y o _ e q (fun w=>nomatch w)))
  ·exact absurd z (nmut_prv (en y o _ e q (fun w=>nomatch w)))
  ·by_cases w:I y
   ·exact absurd z (nmut_lcl (Cfg.lend_in w))
   ·exact absurd z (nmut_prv ((Cfg.lend_out w).trans (Cfg.enter_old (gn y o e) q)))
  ·exact q
 ·obtain ⟨o,e⟩:=lv y _ q
  exact Cfg.exit_at q (x.prv y (en y o _ e q (fun w=>nomatch w)))
 ·obtain ⟨o,e⟩:=lv y _ q
  rcases pv y o e q with w|w<;>exact Cfg.exit_at q w
 ·cases e0:h.get? y with
 |none=>exact .inr (.inr rfl)
 |some o0=>
   rcases x.fzn y o e with z|z|z
   ·exact .inl z
   ·refine .inr (.inl ?_)
    rcases own_cases C y with q|q|q|q
    ·exact absurd z (nmut_none (en y o0 _ e0 q (fun w=>nomatch w)))
    ·exact absurd z (nmut_prv (en y o0 _ e0 q (fun w=>nomatch w)))
    ·by_cases w:I y
     ·exact absurd z (nmut_lcl (Cfg.lend_in w))
     ·exact absurd z (nmut_prv ((Cfg.lend_out w).trans (Cfg.enter_old (gn y o0 e0) q)))
    ·exact q
   ·exact nomatch (k y o0 e0).symm.trans z
theorem VR.slots (V:VR g σ env vs) {t:Nat} (k:σ.h.UpToSlots h'):VR g (σ.at σ.C h' t) env vs:=by
 refine ⟨?_,V.own,fun x c e=>?_,V.inj⟩
 ·obtain ⟨m,F,hm⟩:=V.fr
  exact ⟨m,k.ns F,hm⟩
 ·obtain ⟨z1,z2,z3,v0,⟨o,ho,hd⟩,z4⟩:=V.cells x c e
  obtain ⟨sl,hs⟩:=k c o ho (fun vs q=>by rw [hd] at q;cases q)
  exact ⟨z1,z2,z3,v0,⟨_,hs,hd⟩,z4⟩
end
noncomputable abbrev noArgs:Arguments:={ posonlyargs:=[],args:=[],vararg:=none,kwonlyargs:=[],kw_defaults:=[],kwarg:=none,defaults:=[] }
structure Gy (g:Cx):Prop where
 code:CodeHd g.hb 748 744
 hid:g.hb.get? 744=none
 law:∀ o fd,g.hb.get? 749=some o→o.data=.func fd→fd.code=.ref 748
 main:∃ mg,g.hb.Ns mainGlobals mg∧∃ bm ob,mg "__builtins__"=some (.ref bm)∧bm≠builtinsNs∧g.hb.get? bm=some ob∧ob.cls=.type "module"∧ob.dict=some builtinsNs∧ob.data=.plain
structure Lent (g:Cx) (vs:Vars) (clos:List (Str×Addr)) (σ:St):Prop where
 cell:∀ x c,clos.lookup x=some c→(σ.C.own c=some .lcl∨σ.C.own c=some .prv)∧g.hb.get? c=none∧∃ v0,σ.h.IsCell c v0∧∀ v,look x vs=some v→∃ u,v0=some u∧VRep σ.C v u
 inj:∀ x y c,clos.lookup x=some c→clos.lookup y=some c→x=y
def LamObj (body:Expr) (sc:Scope) (clos:List (Str×Addr)) (f:Addr) (h:Heap):Prop:=∃ qual pm c' ctv,h.get? f=some (kla_obj "<lambda>" qual noArgs body sc clos pm c' ctv)∧h.CodeRec (.ref c') qual
section
variable {g:Cx} {K:Frag} {T:Tabs} {D:Nat→Prop} {C C' C₁:Cfg} {h h' h₁ h₂:Heap} {a a' a₁:Hp} {n m:Nat} {σ σ' σ₁:St} {sc:Scope} {vs vs' vs₁:Vars} {A:Around} {env:Env} {l outer:List Env} {E:Value→Shared→Prop} {np pos p1 p2:Pos} {B:Heap} {e f:Addr} {s:Shared} {clos:List (Str×Addr)} {body:Expr} {Q:Value→Shared→Prop} {v:AV} {xs:List AV} {es:List Expr}
theorem LamObj.keep (L:LamObj body sc clos f h) (k:∀ b o,h.get? b=some o→h'.get? b=some o):LamObj body sc clos f h':=by obtain ⟨q,pm,c,t,e,r⟩:=L;exact ⟨q,pm,c,t,k _ _ e,r.keeps k⟩
theorem clos2 {x y z:Str} {cx cy:Addr} (h1:env.cells.lookup x=some cx) (h2:env.cells.lookup y=some cy):closureFor ⟨.function,[(x,.free),(y,.free),(z,.globalImplicit)],false,false,[]⟩ env=pure [(y,cy),(x,cx)]:=by
 have c1:cellOf env x=pure cx:=by unfold cellOf;rw [h1]
 have c2:cellOf env y=pure cy:=by unfold cellOf;rw [h2]
 unfold closureFor
 simp [c1,c2]
theorem lam_made {ps:Array Value} (Y:Gy g) (hg:env.globals=mainGlobals) (hc:env.code=.ref 748) (hcl:closureFor sc env=pure clos) (hk:∀ b o,g.hb.get? b=some o→s.heap.get? b=some o) (hP:s.heap.get? 744=some (tabObj ps)) (ht:TriplesOk ps.toList) (hnf:codeAmong pos ps.toList=none)
  (h:∀ f h' tk c',(∀ b o,b≠744→s.heap.get? b=some o→h'.get? b=some o)→s.heap.get? f=none→LamObj body sc clos f h'→h'.get? 744=some (tabObj (ps++#[rawInt pos.line,rawInt pos.col,.ref c']))→Q (.ref f) { s with heap:=h',toks:=tk }):
  wpAny g.M A (eval (.Lambda noArgs body sc pos) env) Q E s:=by
 obtain ⟨mg,hm,bm,ob,b1,b2,b3,b4,b5,b6⟩:=Y.main
 have ne:∀ b o,g.hb.get? b=some o→b≠744:=fun b o e q=>by rw [q,Y.hid] at e;cases e
 have hgP:mainGlobals≠744:=by obtain ⟨o,_,_,e,_⟩:=hm;exact ne _ _ e
 have hbG:bm≠mainGlobals:=fun q=>by
  obtain ⟨o,es,ep,e,hd,_⟩:=hm
  rw [q,e] at b3;cases b3;rw [hd] at b6;cases b6
 refine kla_eval rfl (kla_makeFunction (mg:=mg) hcl hg (hm.keeps hk) hc (Y.code.keeps hk) hP ht hnf hgP ⟨bm,ob,b1,b2,hbG,ne _ _ b3,hk _ _ b3,b4,b5,b6⟩ fun c' ctv h' tk hx hge hlt hrec htb=>?_)
 refine h _ _ tk c' (fun b o hb e=>Heap.get?_push_of_some _ (hx b o hb e)) (Heap.get?_none_of_le ?_) ⟨_,_,c',ctv,Heap.get?_push_size _ rfl,hrec.keeps fun b o e=>Heap.get?_push_of_some _ e⟩ (Heap.get?_push_of_some _ htb)
 exact Nat.le_trans hge (Nat.le_of_lt hlt)
theorem lam_enter (G:Gl g T) (hk:sc.kind=.function) (hco:sc.isCoroutine=false) (hgen:sc.isGenerator=false) (hsc:∀ x k,look x sc.names=some k→(k=.free∨k=.globalImplicit)∧(x==("__debug__":Str))=false∧(x==("__classdict__":Str))=false) (hcs:∀ x,look x sc.names=some .free→∃ c,clos.lookup x=some c) (nc:∀ x∈sc.names,x.2≠.cell)
  (hR:Room (n+1) A) (O:Ok g σ.C σ.h a) (L:LamObj body sc clos f σ.h) (N:Lent g vs clos σ) (hp:∀ x c,clos.lookup x=some c→σ.C.own c=some .prv)
  (h:∀ env h₁ t₁,env.frame=some env.locals→EnvOk env sc→σ.h.get? env.locals=none→(∀ b o,σ.h.get? b=some o→h₁.get? b=some o)→Ok g ((σ.C.enter (fun y=>y=env.locals)).lend fun y=>∃ x,clos.lookup x=some y) h₁ a →
   VR g ⟨(σ.C.enter (fun y=>y=env.locals)).lend fun y=>∃ x,clos.lookup x=some y,{ σ.s with heap:=h₁,toks:=t₁ }⟩ env vs →
   wpAny g.M (A.deeper env) (eval body env) Q (fun e s'=>wpAny g.M (A.deeper env) (leaving env e) (fun _ s''=>E e s'') E s') { σ.s with heap:=h₁,toks:=t₁ }):wpAny g.M A (call (.ref f) []) Q E σ.s:=by
 obtain ⟨qual,pm,c',ctv,ho,hrec⟩:=L
 refine wpAny_call (kla_callFunE hR.dep ho rfl hco hgen rfl hrec ?_)
 rw [show bindArgs (kla_fn "<lambda>" qual noArgs body sc clos pm (.ref c') ctv) ⟨[],[]⟩=pure [] from rfl]
 refine wpAny_pure (wpAny_newFunctionEnv nc (fun x hx=>nomatch hx) (fun h₁ hns hsb=>?_) hk)
 have kp:∀ b o,σ.h.get? b=some o→h₁.get? b=some o:=fun b o e=>hsb.extBut b o (Nat.ne_of_lt (Heap.lt_size e)) (Heap.get?_push_of_some _ e)
 refine ⟨(G.nolimit.keeps O.stays).keeps kp,kla_codeExpr ?_⟩
 have hgn:σ.h.get? σ.h.objs.size=none:=none_of_size _
 have nl:∀ x c,clos.lookup x=some c→c≠σ.h.objs.size:=fun x c e q=>by
  obtain ⟨_,_,v0,⟨o,ho,_⟩,_⟩:=N.cell x c e
  rw [q,hgn] at ho;cases ho
 have O₁:=O.enter (h':=h₁) (l:=fun y=>y=σ.h.objs.size) (fun y hy=>hy▸⟨hgn,by obtain ⟨o,_,_,ho,_⟩:=hns;exact ⟨o,ho⟩⟩) kp
 have O₂:=O₁.lend (I:=fun y=>∃ x,clos.lookup x=some y) fun y w_=>by obtain ⟨x,e⟩:=w_;exact Cfg.enter_old (l:=fun y=>y=σ.h.objs.size) (nl x y e) (hp x y e)
 refine h (newEnv sc σ.h.objs.size mainGlobals clos (qual++".<locals>.") (some f) (.ref c') none builtinsNs) h₁ _ rfl ⟨hk,rfl,rfl,fun x k e=>?_,fun x e=>?_⟩ hgn kp O₂ ⟨⟨_,hns,fun x v e q=>?_⟩,?_,fun x c e=>?_,N.inj⟩
 ·exact ⟨.inl (by show sc.names.lookup x=some k;rw [← look_eq];exact e),(hsc x k e).2⟩
 ·refine hcs x ?_
  rcases e with e|e
  ·have e':look x sc.names=some .cell:=by rw [look_eq];exact e
   rcases (hsc x _ e').1 with w|w<;>cases w
  ·rw [look_eq];exact e
 ·have e':look x sc.names=some .local:=by rw [look_eq];exact q
  rcases (hsc x _ e').1 with w|w<;>cases w
 ·exact (Cfg.lend_out fun w_=>by obtain ⟨x,e⟩:=w_;exact nl x _ e rfl).trans (Cfg.enter_new rfl)
 ·obtain ⟨_,z2,v0,⟨o,z3,z3'⟩,z4⟩:=N.cell x c e
  refine ⟨Cfg.lend_in ⟨x,e⟩,nl x c e,z2,v0,⟨o,kp _ _ z3,z3'⟩,fun v ev _=>?_⟩
  obtain ⟨u,w1,w2⟩:=z4 v ev
  exact ⟨u,w1,(w2.mono Cfg.enter_more).mono Cfg.lend_more⟩
theorem FrOk.ext (F:FrOk σ l) (x:Nx All true σ σ'):FrOk σ' l:=fun env he=>by
 obtain ⟨h1,L,o,h2,h3,h4,h5⟩:=F env he
 refine ⟨h1,L,o,h2,h3.imp (x.ext.prv L) (x.ext.lcl L),x.ext.keep L o h4 ?_ (.inl rfl),h5⟩
 rcases h3 with h3|h3
 ·exact nmut_prv h3
 ·exact nmut_lcl h3
theorem FrOk.cons (F:FrOk σ l) (V:VR g σ env vs) (hE:EnvOk env sc) (hf:env.frame=some env.locals):FrOk σ (env::l):=fun en he=>by
 rcases List.mem_cons.mp he with rfl|he
 ·obtain ⟨m,⟨o,es,ep,ho,hd,_⟩,_⟩:=V.fr
  exact ⟨by rw [hE.kind];exact (fun z=>nomatch z),_,o,hf,.inr V.own,ho,fun vs q=>by rw [hd] at q;cases q⟩
 ·exact F en he
theorem FrOk.lend {I:Addr→Prop} {h:Heap} {t:Nat} (F:FrOk (σ.at C h t) l):FrOk (σ.at (C.lend I) h t) l:=fun en he=>by
 obtain ⟨h1,L,o,h2,h3,h4,h5⟩:=F en he
 refine ⟨h1,L,o,h2,?_,h4,h5⟩
 by_cases q:I L
 ·exact .inr (Cfg.lend_in q)
 ·exact h3.imp (fun z=>(Cfg.lend_out q).trans z) fun z=>(Cfg.lend_out q).trans z
def EvX (g:Cx) (n:Nat) (sc:Scope) (vs:Vars) (e:Expr) (a a':Hp):Prop:=∀ A env σ l (Q:Value→Shared→Prop) E,A.frames=some l→FrOk σ l→Room n A→EnvOk env sc→Ok g σ.C σ.h a→VR g σ env vs →
 Thr g All true l (fun fl=>fl=some .none) σ a' E→wpAny g.M A (eval e env) Q E σ.s
theorem EvX.call {k:Str} {q:Pos} (hf:IsFn g f) (hs:es.all noStar=true) (N:EvR g n sc vs (.Name k q) a (.val (.ref f)) a) (H:EsR g n sc vs es a xs a₁) (K:CX g n All f xs a₁ a'):EvX g n sc vs (.Call (.Name k q) es [] pos) a a':=by
 intro A env σ l Q E hA hF hR hE O V T
 show wpAny _ A (eval (.Name k q) env>>=fun fv=>callWith pos fv [] (backTo pos (starEach es env)) []) Q E σ.s
 refine wpAny_bind (N A env σ hR hE O V _ E fun u σ₁ x₁ O₁ r₁=>?_)
 obtain rfl:=r₁.inv_val
 obtain ⟨o,fd,f1,f2⟩:=hf
 exact callWith_of (P:=fun h=>h.get? f=some o) (by rw [(plain_es hs).1];rfl) (fun h hg=>⟨_,.inl rfl,looks_fn hg f2⟩) (H.args hs hR hE O₁ (V.ext x₁) fun us σ₂ x₂ O₂ r₂=>⟨O₂.stays _ _ f1,wpAny_call (K A σ₂ us l _ hA (hF.ext (x₁.trans x₂)) hR O₂ r₂ (T.after (x₁.trans x₂)))⟩)
end
noncomputable abbrev lamSc:Scope:=⟨.function,[("line",.free),("tree",.free),("excluded_uris",.globalImplicit)],false,false,[]⟩
noncomputable abbrev fb742 (p:Nat→Pos):List Stmt:=[.Try [.Expr (.Call (.Name "call" (p 0)) [] [] (p 1)) (p 2)] [.ExceptHandler (some (.Name "SheetFault" (p 3))) none [.Return (some (.Constant (.bool true) 0 (p 4))) (p 5)] (p 6)] [] [] (p 7),.Return (some (.Constant (.bool false) 0 (p 8))) (p 9)]
noncomputable def p742 (i:Nat):Pos:=([⟨518,8,518,12⟩,⟨518,8,518,14⟩,⟨518,8,518,14⟩,⟨519,11,519,21⟩,⟨520,15,520,19⟩,⟨520,8,520,19⟩,⟨519,4,520,19⟩,⟨517,4,520,19⟩,⟨521,11,521,16⟩,⟨521,4,521,16⟩]:List Pos).getD i ⟨0,0,0,0⟩
noncomputable def d742:FnD:=(TT.fn 742).getD ⟨"",⟨[],[],none,[],[],none,[]⟩,[],[],⟨.function,[],false,false,[]⟩⟩
section
variable {g:Cx} {K:Frag} {D:Nat→Prop} {C C' C₁:Cfg} {h h' h₁ h₂:Heap} {a a' a₁:Hp} {n m:Nat} {σ σ' σ₁:St} {vs:Vars} {A:Around} {env:Env} {l outer:List Env} {E:Value→Shared→Prop} {f ct cl:Addr} {body:Expr} {Q:Value→Shared→Prop} {v:AV}
noncomputable abbrev clos2L (ct cl:Addr):List (Str×Addr):=[("tree",ct),("line",cl)]
theorem lamSc_names (x:Str) (k:NameKind) (h:look x lamSc.names=some k):(k=.free∨k=.globalImplicit)∧(x==("__debug__":Str))=false∧(x==("__classdict__":Str))=false:=by
 have e:look x lamSc.names=bif strB x "line" then some .free else bif strB x "tree" then some .free else bif strB x "excluded_uris" then some .globalImplicit else none:=rfl
 rw [e] at h
 cases h1:strB x "line" with
|true=>rw [h1] at h;obtain rfl:=Option.some.inj h;rw [strB_iff.mp h1];exact ⟨.inl rfl,by decide +kernel,by decide +kernel⟩
|false=>
  rw [h1] at h
  cases h2:strB x "tree" with
 |true=>rw [h2] at h;obtain rfl:=Option.some.inj h;rw [strB_iff.mp h2];exact ⟨.inl rfl,by decide +kernel,by decide +kernel⟩
 |false=>
   rw [h2] at h
   cases h3:strB x "excluded_uris" with
  |true=>rw [h3] at h;obtain rfl:=Option.some.inj h;rw [strB_iff.mp h3];exact ⟨.inr rfl,by decide +kernel,by decide +kernel⟩
  |false=>rw [h3] at h;cases h
theorem lamSc_cells (x:Str) (h:look x lamSc.names=some .free):∃ c,(clos2L ct cl).lookup x=some c:=by
 have e:look x lamSc.names=bif strB x "line" then some .free else bif strB x "tree" then some .free else bif strB x "excluded_uris" then some .globalImplicit else none:=rfl
 rw [e] at h
 cases h1:strB x "line" with
|true=>rw [strB_iff.mp h1];exact ⟨cl,by kernel_rfl⟩
|false=>
  rw [h1] at h
  cases h2:strB x "tree" with
 |true=>rw [strB_iff.mp h2];exact ⟨ct,by kernel_rfl⟩
 |false=>
   rw [h2] at h
   cases h3:strB x "excluded_uris" with
  |true=>rw [h3] at h;cases h
  |false=>rw [h3] at h;cases h
theorem Lent.enter (N:Lent g vs (clos2L ct cl) σ) {I:Addr→Prop} {s':Shared} (hg:∀ y,I y→σ.h.get? y=none) (k:∀ x o,σ.h.get? x=some o→s'.heap.get? x=some o):
  Lent g vs (clos2L ct cl) ⟨σ.C.enter I,s'⟩∧∀ x c,(clos2L ct cl).lookup x=some c→(σ.C.enter I).own c=some .prv:=by
 have key:∀ x c,(clos2L ct cl).lookup x=some c→(σ.C.enter I).own c=some .prv:=fun x c e=>by
  obtain ⟨z1,_,v0,⟨o,ho,_⟩,_⟩:=N.cell x c e
  have hn:¬ I c:=fun q=>nomatch ho.symm.trans (hg c q)
  rcases z1 with z|z<;>exact Cfg.enter_old hn z
 refine ⟨⟨fun x c e=>?_,N.inj⟩,key⟩
 obtain ⟨_,z2,v0,⟨o,z3,z3'⟩,z4⟩:=N.cell x c e
 exact ⟨.inr (key x c e),z2,v0,⟨o,k _ _ z3,z3'⟩,fun v ev=>by obtain ⟨u,w1,w2⟩:=z4 v ev;exact ⟨u,w1,w2.mono Cfg.enter_more⟩⟩
noncomputable abbrev hd742 (p:Nat→Pos):ExceptHandler:=.ExceptHandler (some (.Name "SheetFault" (p 3))) none [.Return (some (.Constant (.bool true) 0 (p 4))) (p 5)] (p 6)
theorem body742 {sc:Scope} {p:Nat→Pos} {Q:Flow→Shared→Prop} {o:Obj} {fd:FuncData} (hE:EnvOk env sc) (V:VR g σ env vs) (i1:look "call" sc.names=some .local) (i2:look "call" vs=some (.val (.ref f))) (ho:σ.h.get? f=some o) (hd:o.data=.func fd)
  (h:wpAny g.M A (call (.ref f) []) (fun _ s'=>Q (.ret (.bool false)) s') (fun e s₁=>wpAny g.M A (noteFrame e env) (fun _ s₂=>wpAny g.M A (setFlight e none) (fun _ s₃=>wpAny g.M A (handleBy e env [hd742 p]) (fun f s'=>match f with|.next=>Q (.ret (.bool false)) s'|f=>Q f s') E s₃) E s₂) E s₁) σ.s):
  wpAny g.M A (execs (fb742 p) env) Q E σ.s:=by
 have fin:∀ s':Shared,Q (.ret (.bool false)) s'→wpAny g.M A (execs [.Return (some (.Constant (.bool false) 0 (p 8))) (p 9)] env) Q E s':=fun s' hq=>by
  refine wpAny_execs_cons ?_
  rw [exec_Return_some]
  exact wpAny_bind (wpAny_standAt (wpAny_bind (Constant_bool (wpAny_pure hq))))
 refine wpAny_execs_cons (wpAny_Try_except (wpAny_execs_cons (wpAny_Expr_any ?_ (not_interactive hE) rfl)))
 show wpAny _ _ (eval (.Name "call" (p 0)) env>>=fun fv=>callWith (p 1) fv [] (backTo (p 1) (starEach [] env)) []) _ _ _
 refine wpAny_bind (loc_x (v:=.val (.ref f)) hE V i1 i2 (fun _ e=>e) fun u r=>?_)
 obtain rfl:=r.inv_val
 refine callWith_of (P:=fun h=>h.get? f=some o) rfl (fun h hg=>⟨_,.inl rfl,looks_fn hg hd⟩) (evalArgs_nil3 ⟨ho,?_⟩)
 refine wpAny_mono h (fun _ s' hq=>wpAny_execs_nil (wpAny_execs_nil (fin s' hq))) fun e s₁ h₁=>?_
 refine wpAny_mono h₁ (fun _ s₂ h₂=>wpAny_mono h₂ (fun _ s₃ h₃=>wpAny_mono h₃ (fun f s' hq=>?_) fun _ _ x=>x) fun _ _ x=>x) fun _ _ x=>x
 cases f<;>first|exact fin s' hq|exact hq
theorem hd742_is:TT.fn 742=some d742:=by kernel_rfl
theorem fb742_is:d742.body=fb742 p742:=by kernel_rfl
theorem bind742:bindP d742 [.val (.ref f)]=some [(Str.ofString "call",.val (.ref f))]:=by kernel_rfl
theorem refused_F (G:Gl g TT) (hR:Room (n+2) A) (O:Ok g σ.C σ.h a) (L:LamObj body lamSc (clos2L ct cl) f σ.h) (N:Lent g vs (clos2L ct cl) σ) (H:EvR g n lamSc vs body a v a')
  (h:∀ σ',Nx All true σ σ'→Ok g σ'.C σ'.h a'→Q (.bool false) σ'.s):wpAny g.M A (call (.ref 742) [.ref f]) Q E σ.s:=by
 refine wpAny_call (fn_enter G hd742_is bind742 (us:=[.ref f]) hR O (.cons (.val _) .nil) fun env h₁ t₁ hf' _ E₁ hgn kp O₁ V₁=>codeAny_func ?_)
 rw [fb742_is]
 obtain ⟨N₁,hp⟩:=N.enter (s':={ σ.s with heap:=h₁,toks:=t₁ }) hgn kp
 have L₁:=L.keep kp
 obtain ⟨qual,pm,c',ctv,ho,_⟩:=L.keep kp
 refine body742 E₁ V₁ (by kernel_rfl) (by kernel_rfl) ho rfl ?_
 refine lam_enter (σ:=⟨σ.C.enter (OwnF env),{ σ.s with heap:=h₁,toks:=t₁ }⟩) G rfl rfl rfl lamSc_names lamSc_cells (by decide) (hR.deeper env) O₁ L₁ N₁ hp fun env₃ h₃ t₃ f3 E₃ n3 k3 O₃ V₃=>?_
 refine H _ env₃ _ ((hR.deeper env).deeper env₃) E₃ O₃ V₃ _ _ fun u σ₄ x₄ O₄ r₄=>?_
 have X₄:=Ext.lam O₁ (l:=fun y=>y=env₃.locals) (fun y hy=>hy▸n3) (fun y w_=>by obtain ⟨x,e⟩:=w_;exact hp x y e) k3 x₄.ext
 exact h ⟨σ.C.exit ((σ.C.enter (OwnF env)).exit σ₄.C),σ₄.s⟩ ⟨Ext.call O hgn kp (X₄.weak fun _ _=>trivial),x₄.same⟩ O₄.exit.exit
theorem refused_T {K:Frag} (G:Gl g TT) (X:Gx g K) (hA:A.frames=some l) (hF:FrOk σ l) (hR:Room (n+2) A) (O:Ok g σ.C σ.h a) (L:LamObj body lamSc (clos2L ct cl) f σ.h) (N:Lent g vs (clos2L ct cl) σ) (H:EvX g n lamSc vs body a a')
  (h:∀ σ' h',Nx All true σ σ'→Ok g σ'.C h' a'→σ'.h.UpToSlots h'→(∀ b o,σ.h.get? b=some o→b ∉ frs l→σ'.h.get? b=some o→h'.get? b=some o)→Q (.bool true) { σ'.s with heap:=h' }):wpAny g.M A (call (.ref 742) [.ref f]) Q E σ.s:=by
 refine wpAny_call (fn_enter G hd742_is bind742 (us:=[.ref f]) hR O (.cons (.val _) .nil) fun env h₁ t₁ hf' _ E₁ hgn kp O₁ V₁=>codeAny_func ?_)
 rw [fb742_is]
 obtain ⟨N₁,hp⟩:=N.enter (s':={ σ.s with heap:=h₁,toks:=t₁ }) hgn kp
 have L₁:=L.keep kp
 obtain ⟨qual,pm,c',ctv,ho,_⟩:=L.keep kp
 refine body742 E₁ V₁ (by kernel_rfl) (by kernel_rfl) ho rfl ?_
 have hA₁:(A.deeper env).frames=some (env::l):=Around.frames_deeper hA
 refine lam_enter (σ:=⟨σ.C.enter (OwnF env),{ σ.s with heap:=h₁,toks:=t₁ }⟩) G rfl rfl rfl lamSc_names lamSc_cells (by decide) (hR.deeper env) O₁ L₁ N₁ hp fun env₃ h₃ t₃ f3 E₃ n3 k3 O₃ V₃=>?_
 have hA₃:((A.deeper env).deeper env₃).frames=some (env₃::env::l):=Around.frames_deeper hA₁
 have F₁:FrOk ⟨σ.C.enter (OwnF env),{ σ.s with heap:=h₁,toks:=t₁ }⟩ (env::l):=.cons (FrOk.enter (σ:=σ) hF hgn kp).1 V₁ E₁ hf'
 have F₃:=(FrOk.enter F₁ (I:=fun y=>y=env₃.locals) (s':={ σ.s with heap:=h₃,toks:=t₃ }) (fun y hy=>hy▸n3) k3).1
 refine H _ env₃ _ _ _ _ hA₃ (.cons (FrOk.lend (σ:=σ) (h:=h₃) (t:=t₃) F₃) V₃ E₃ f3) ((hR.deeper env).deeper env₃) E₃ O₃ V₃ fun e σ₄ h₄ B Y fl x₄ O₄ t q=>?_
 subst q
 refine Fly.leave (s:={ σ₄.s with heap:=h₄ }) t.fly hA₃ f3 (.inr (.inl rfl)) fun h₅ F₅ k₅=>?_
 have hB:∀ b o,g.hb.get? b=some o→B.get? b=some o:=fun b o z=>t.keepB b o (O₄.stays b o z) fun y=>by
  have z2:=(O₄.fz b o (O₄.base b o z)).2
  rcases t.mine b y with w|w<;>exact nomatch w.symm.trans z2
 refine caught (s:={ σ₄.s with heap:=h₅ }) G X E₁ (by kernel_rfl) hA₁ hf' hB F₅ fun h₆ F₆ k₆=>?_
 have X₄:=Ext.lam O₁ (l:=fun y=>y=env₃.locals) (fun y hy=>hy▸n3) (fun y w_=>by obtain ⟨x,e⟩:=w_;exact hp x y e) k3 x₄.ext
 have ks:=(t.slots.trans k₅).trans k₆
 refine h ⟨σ.C.exit ((σ.C.enter (OwnF env)).exit σ₄.C),σ₄.s⟩ h₆ ⟨Ext.call O hgn kp (X₄.weak fun _ _=>trivial),x₄.same⟩ (Ok.poke (I:=Y) O₄.exit.exit (fun y hy=>exitO_lp (exitO_lp (t.mine y hy))) (fun y o hy z=>F₆.stay y o (t.keepB y o z hy)) fun y hy=>?_) ks fun b o z hb z4=>F₆.stay b o (t.keepB b o z4 fun hy=>?_)
 ·rcases t.live y hy with rfl|⟨o,z,hn⟩
  ·obtain ⟨o,z,_⟩:=Fly.there (s:={ σ₄.s with heap:=h₆ }) F₆
   exact ⟨o,z⟩
  ·obtain ⟨sl,z⟩:=ks y o z hn
   exact ⟨_,z⟩
 ·have w:=t.old b o (k3 b o (kp b o z)) hy
  have e3:frs (env₃::env::l)=env₃.locals::env.locals::frs l:=by
   show List.filterMap _ _=_
   rw [List.filterMap_cons_some f3,List.filterMap_cons_some hf']
  rw [e3] at w
  rcases List.mem_cons.mp w with rfl|w
  ·exact nomatch n3.symm.trans (kp _ o z)
  ·rcases List.mem_cons.mp w with rfl|w
   ·exact nomatch (hgn _ (.inl rfl)).symm.trans z
   ·exact hb w
end
noncomputable def lb1:Expr:=.Call (.Name "excluded_uris" ⟨538,8,538,21⟩) [.Name "tree" ⟨538,22,538,26⟩,.Subscript (.Name "line" ⟨538,28,538,32⟩) (.UnaryOp .USub (.Constant (.int (Int.ofNat 1)) 0 ⟨538,34,538,35⟩) ⟨538,33,538,35⟩) ⟨538,28,538,36⟩] [] ⟨538,8,538,37⟩
noncomputable def lb2:Expr:=.Call (.Name "excluded_uris" ⟨539,8,539,21⟩) [.Name "tree" ⟨539,22,539,26⟩,.Subscript (.Name "line" ⟨539,28,539,32⟩) (.Constant (.int (Int.ofNat 0)) 0 ⟨539,33,539,34⟩) ⟨539,28,539,35⟩] [] ⟨539,8,539,36⟩
noncomputable def law9:Stmt:=.If (.BoolOp .Or [.UnaryOp .Not (.Call (.Name "_law_refused" ⟨537,11,537,23⟩) [.Lambda noArgs lb1 lamSc ⟨538,0,538,37⟩] [] ⟨537,11,538,39⟩) ⟨537,7,538,39⟩,
 .Call (.Name "_law_refused" ⟨538,43,538,55⟩) [.Lambda noArgs lb2 lamSc ⟨539,0,539,36⟩] [] ⟨538,43,539,38⟩] ⟨537,7,539,38⟩) [.Return (some (.Constant (.bool false) 0 ⟨540,15,540,20⟩)) ⟨540,8,540,20⟩] [] ⟨537,4,540,20⟩
theorem law9_is:lawSt [] 9=law9:=by kernel_rfl
section
variable {g:Cx} (G:Gl g TT) (n:Nat)
include G
theorem lb1_tree {t:List Row}:EvR g (n+7) lamSc Z2l (kid lb1 0) (Z1z t) L0 ((Z1z t)):=
 .gz G [] .n
theorem lb1_line {t:List Row}:EvR g (n+7) lamSc Z2l (kid lb1 1) (Z1z t) (.nat 3) ((Z1z t)):=
 .gz G [] .n
theorem lb2_ok {t:List Row} {es:List El} {F:List Str} {R:List Nat} {S:SS} {W:List Str} (C:CR g (n+7) 193 [L0,.nat 1] [.tree t] L1 [.tree t,.txs (goneN es (1+1))]):EvR g (n+7) lamSc Z2l lb2 [.tree t,.list [.nat 1,.nat 2,.nat 3],.txs F,.ixs R,.dss S,.txs W] L6 ([.tree t,.list [.nat 1,.nat 2,.nat 3],.txs F,.ixs R,.dss S,.txs W,.txs (goneN es 2)]):=
 .gz G [.c,.call [0] L1 [.tree t,.txs (goneN es 2)]] (.c C .n)
end
noncomputable abbrev VL9:Vars:=Z2l
section
variable {g:Cx} {K:Frag} {a a' a₁:Hp} {n m:Nat} {σ σ' σ₁:St} {A:Around} {env:Env} {E:Value→Shared→Prop} {f ct cl:Addr} {body:Expr} {p q pos:Pos}
theorem look2 {x:Str} {c:Addr} (h:(clos2L ct cl).lookup x=some c):(x="tree"∧c=ct)∨(x="line"∧c=cl):=by
 rw [List.lookup_cons] at h
 split at h
 ·rename_i z;exact .inl ⟨eq_of_beq z,(Option.some.inj h).symm⟩
 ·rw [List.lookup_cons] at h
  split at h
  ·rename_i z;exact .inr ⟨eq_of_beq z,(Option.some.inj h).symm⟩
  ·cases h
theorem law_kind {x:Str} (hE:EnvOk env lawSc) (h:look x lawSc.names=some .cell):env.kindOf x=some .cell:=(hE.nm x _ h).1.resolve_right fun z=>nomatch z.1
theorem lent_of (hE:EnvOk env lawSc) (V:VR g σ env VL9) (h1:env.cells.lookup (Str.ofString "tree")=some ct) (h2:env.cells.lookup (Str.ofString "line")=some cl):Lent g VL9 (clos2L ct cl) σ:=by
 have key:∀ x c,(clos2L ct cl).lookup x=some c→env.cells.lookup x=some c∧env.kindOf x=some .cell:=fun x c e=>by
  rcases look2 e with ⟨rfl,rfl⟩|⟨rfl,rfl⟩
  ·exact ⟨h1,law_kind hE (by kernel_rfl)⟩
  ·exact ⟨h2,law_kind hE (by kernel_rfl)⟩
 refine ⟨fun x c e=>?_,fun x y c e1 e2=>V.inj x y c (key x c e1).1 (key y c e2).1⟩
 obtain ⟨z1,_,z3,v0,z4,z5⟩:=V.cells x c (key x c e).1
 exact ⟨.inl z1,z3,v0,z4,fun v ev=>z5 v ev (.inl (key x c e).2)⟩
structure Tab9 (σ:St) (ps:Array Value):Prop where
 own:σ.C.own 744=some .prv
 at_:σ.h.get? 744=some (tabObj ps)
theorem st9_call {ps:Array Value} {Q:Value→Shared→Prop} (G:Gl g TT) (Y:Gy g) (hE:EnvOk env lawSc) (hc:env.code=.ref 748) (h1:env.cells.lookup (Str.ofString "tree")=some ct) (h2:env.cells.lookup (Str.ofString "line")=some cl) (O:Ok g σ.C σ.h a) (V:VR g σ env VL9) (t:Tab9 σ ps) (ht:TriplesOk ps.toList) (hnf:codeAmong pos ps.toList=none)
  (h:∀ f σ₁ c',σ₁.s={ σ.s with heap:=σ₁.s.heap,toks:=σ₁.s.toks }→Ok g σ₁.C σ₁.h a→VR g σ₁ env VL9→Tab9 σ₁ (ps++#[rawInt pos.line,rawInt pos.col,.ref c'])→LamObj body lamSc (clos2L ct cl) f σ₁.h→Lent g VL9 (clos2L ct cl) σ₁→wpAny g.M A (call (.ref 742) [.ref f]) Q E σ₁.s):
  wpAny g.M A (eval (.Call (.Name "_law_refused" p) [.Lambda noArgs body lamSc pos] [] q) env) Q E σ.s:=by
 show wpAny _ _ (eval (.Name "_law_refused" p) env>>=fun fv=>callWith q fv [] (backTo q (starEach [.Lambda noArgs body lamSc pos] env)) []) _ _ _
 refine wpAny_bind (glob_x (w:=.ref 742) G hE (by kernel_rfl) (by kernel_rfl) O.stays ?_)
 obtain ⟨o,fd,f1,f2⟩:=G.isFn hd742_is
 refine callWith_of (P:=fun h=>h.get? 742=some o) rfl (fun h hg=>⟨_,.inl rfl,looks_fn hg f2⟩) ?_
 rw [starEach_cons rfl]
 refine Calls.evalArgs_plain (Calls.spliced_cons (lam_made (clos:=clos2L ct cl) Y hE.glb hc (clos2 h2 h1) O.stays t.at_ ht hnf fun f h' tk c' kp hn L tb=>Calls.spliced_nil ?_))
 have n7:∀ y o,g.hb.get? y=some o→y≠744:=fun y o e q=>by rw [q,Y.hid] at e;cases e
 refine ⟨kp _ _ (n7 _ _ f1) (O.stays _ _ f1),?_⟩
 have O₁:Ok g σ.C h' a:=O.poke (I:=fun y=>y=744) (fun y hy=>hy▸.inr t.own) (fun y o hy z=>kp y o hy z) (fun y hy=>hy▸⟨_,tb⟩)
 have V₁:VR g (σ.at σ.C h' tk) env VL9:=V.map (fun y o e z=>⟨e,kp y o (fun q=>by rw [q,t.own] at e;cases e) z⟩) fun _ v e=>⟨v,e,fun _ r=>r⟩
 exact h f (σ.at σ.C h' tk) c' rfl O₁ V₁ ⟨t.own,tb⟩ L (lent_of hE V₁ h1 h2)
theorem law_st9 {Q:Flow→Shared→Prop} {R:List Row} {es:List El} {e:El} (G:Gl g TT) (X:Gx g K) (Y:Gy g) (Rf:Refuse R es e) (hA:A.frames=some [env]) (hf:env.frame=some env.locals) (hc:env.code=.ref 748) (hR:Room (n+9) A) (hE:EnvOk env lawSc) (O:Ok g σ.C σ.h (Z1z R)) (V:VR g σ env VL9) (t:Tab9 σ #[])
  (h:∀ σ' a' ps,σ'.s={ σ.s with heap:=σ'.s.heap,toks:=σ'.s.toks }→Ok g σ'.C σ'.h a'→VR g σ' env VL9→Tab9 σ' ps→Q .next σ'.s):wpAny g.M A (exec law9 env) Q E σ.s:=by
 obtain ⟨ct,h1⟩:=hE.cell "tree" (.inl (law_kind hE (by kernel_rfl)))
 obtain ⟨cl,h2⟩:=hE.cell "line" (.inl (law_kind hE (by kernel_rfl)))
 obtain ⟨F,L,S,W,CX1⟩:=exc_raises G (n+1) X Rf
 have C2:CR g (n+7) 193 [L0,.nat 1] [.tree R] L1 [.tree R,.txs (goneN es (1+1))]:=exc_cr G (n+1) Rf.tv Rf.few (by rw [Rf.len];decide) Rf.wd0 (by
  have h0:0<es.length:=by rw [Rf.len];exact Nat.succ_pos 2
  have he:=List.getElem?_eq_getElem h0
  have wd:=Rf.wd0 0 _ he (Nat.succ_pos 0)
  have a:=(splN_le (namesS es[0]) ((namesS es[0]).cps.toList.length+1)).2
  have b:(namesS es[0]).cps.toList.length≤401:=by
   have w1:=wd.short.1
   have w2:=wd.short.2
   unfold namesS
   rw [← len_cps,Str.length_append,Str.length_append,len_cps,len_cps,len_cps]
   have:(Str.ofString " ").cps.toList.length=1:=by decide +kernel
   omega
  have c:(spl (namesS es[0])).length≤402:=Nat.le_trans a (Nat.succ_le_succ b)
  show ((goneN es 0++[])++(es[0]?.map fun e=>(spl (namesS e)).map (goneF (scopeN es (0+2)))).getD []).length≤1000
  rw [he,List.append_nil,List.length_append]
  show 1+((spl (namesS es[0])).map _).length≤1000
  rw [List.length_map]
  omega)
 have H1:EvX g (n+7) lamSc VL9 lb1 (Z1z R) [.tree R,.list [.nat 1,.nat 2,.nat 3],.txs F,.ixs L,.dss S,.txs W]:=by
  refine EvX.call (f:=193) (G.isFn (d:=(fnAt 193).getD ⟨"",⟨[],[],none,[],[],none,[]⟩,[],[],⟨.function,[],false,false,[]⟩⟩) (by kernel_rfl)) (by kernel_rfl) (.glob G (by kernel_rfl) (by kernel_rfl)) (.cons (by kernel_rfl) (lb1_tree G n) (.cons (by kernel_rfl) (lb1_line G n) .nil)) ?_
  exact CX.frame (n:=n+7) (κ:=[0]) CX1 rfl rfl rfl rfl
 unfold law9
 refine wpAny_If (isTrue_or (isTrue_not (isTrue_plain (st9_call G Y hE hc h1 h2 O V t trivial rfl fun f σ₁ c' e₁ O₁ V₁ t₁ L₁ N₁=>?_))))
 refine refused_T (n:=n+7) G X hA (.cons (fun _ z=>nomatch z) V₁ hE hf) hR O₁ L₁ N₁ H1 fun σ₂ h₂ x₂ O₂ k₂ kk=>?_
 refine wpAny_truthy_bool ?_
 have V₂:VR g (σ₂.at σ₂.C h₂ σ₂.s.toks) env VL9:=(V₁.ext x₂).slots k₂
 have n7:744 ∉ frs [env]:=fun z=>by
  have e7:frs [env]=[env.locals]:=List.filterMap_cons_some hf
  rw [e7] at z
  obtain z:=List.mem_singleton.mp z
  have w:=V₁.own
  rw [← z,t₁.own] at w;cases w
 have s7:=x₂.ext.keep 744 _ t₁.at_ (nmut_prv t₁.own) (.inl rfl)
 have t₂:Tab9 (σ₂.at σ₂.C h₂ σ₂.s.toks) _:=⟨x₂.ext.prv 744 t₁.own,kk _ _ t₁.at_ n7 s7⟩
 refine isTrue_or (isTrue_plain (st9_call (σ:=σ₂.at σ₂.C h₂ σ₂.s.toks) G Y hE hc h1 h2 O₂ V₂ t₂ trivial (by kernel_rfl) fun f σ₃ c₃ e₃ O₃ V₃ t₃ L₃ N₃=>?_))
 refine refused_F (n:=n+7) G hR O₃ L₃ N₃ (lb2_ok G n C2) fun σ₄ x₄ O₄=>?_
 refine wpAny_truthy_bool (isTrue_or_nil ?_)
 refine wpAny_execs_nil (h σ₄ _ _ ?_ O₄ (V₃.ext x₄) ⟨x₄.ext.prv 744 t₃.own,x₄.ext.keep 744 _ t₃.at_ (nmut_prv t₃.own) (.inl rfl)⟩)
 have g1:σ₂.s.gens=σ.s.gens:=by rw [x₂.same,e₁]
 have g2:σ₂.s.drawn=σ.s.drawn:=by rw [x₂.same,e₁]
 have g3:σ₂.s.os=σ.s.os:=by rw [x₂.same,e₁]
 rw [x₄.same,e₃]
 show Shared.mk _ σ₂.s.gens σ₂.s.drawn _ σ₂.s.os=Shared.mk _ σ.s.gens σ.s.drawn _ σ.s.os
 rw [g1,g2,g3]
end
section
variable {g:Cx} (G:Gl g TT) (n:Nat)
include G
theorem law_s0 {l:Addr} {x y:Int} (C:CR g (n+17) 679 [.val (.ref l),.nat 0] [] L0 [.src x y]):SsR g (n+17) (fun i=>i<0) lawSc [("script",.val (.ref l))] (part 0 1 (lawSs [])) [] .next ([("source",L0)]) ([.src x y]):=
 .gz G [.call [] L0 [.src x y],.gc [0] ["source"]] (.c C .n)
omit G n in
theorem law_parts:lawSs []=part 0 1 (lawSs [])++(part 1 8 (lawSs [])++(law9::part 10 4 (lawSs []))):=by kernel_rfl
omit G n in
theorem law_fn:∃ d,TT.fn 749=some d∧d.body=lawSs []∧d.scope=lawSc∧∀ l,bindP d [.val (.ref l)]=some [(Str.ofString "script",.val (.ref l))]:=⟨(TT.fn 749).getD ⟨Str.ofString "",⟨[],[],none,[],[],none,[]⟩,[],[],⟨.function,[],false,false,[]⟩⟩,by kernel_rfl,by kernel_rfl,by kernel_rfl,fun l=>by kernel_rfl⟩
omit n in
theorem law_all {K:Frag} (X:Gx g K) (Y:Gy g) {l:Addr} {us:List Value} {ns:List Int} (hl:g.hb.IsList l us.toArray) (hi:IntsAre us ns) (hz:ns.length≤1000) (hB:∀ c∈ns,PySem.Builtin.Int.intBits c≤2 ^ 20) {A:Around} {σ:St} {Q:Result→Shared→Prop}
  (hA:A.frames=some []) (hR:Room 18 A) (O:Ok g σ.C σ.h []) (t:Tab9 σ #[])
  (h:∀ s' ps,s'={ σ.s with heap:=s'.heap,toks:=s'.toks }→(∀ b o,g.hb.get? b=some o→s'.heap.get? b=some o)→s'.heap.get? 744=some (tabObj ps)→Q (.ok (.ret (.bool true))) s'):codeAny g.M A (.call (.ref 749) ⟨[.ref l],[]⟩) Q σ.s:=by
 obtain ⟨d,hd,hb,hs,e1⟩:=law_fn
 obtain ⟨x,y,C0⟩:=pool_cr G 15 hl hi hz hB
 obtain ⟨R,es,e,Rf,S1⟩:=law1 (g:=g) (n:=7) G (orc G) x y
 obtain ⟨vs',a',S2⟩:=law2 (g:=g) G 7
 refine fn_enter G hd (e1 l) (us:=[.ref l]) hR O (.cons (.val _) .nil) fun env h₁ t₁ hf' hc E₁ hgn kp O₁ V₁=>codeAny_func ?_
 rw [hs] at E₁
 obtain ⟨o,fd,f1,f2,f3⟩:=hc
 have hc:env.code=.ref 748:=f3.trans (Y.law o fd f1 f2)
 have hR₁:=hR.deeper env
 have hA₁:(A.deeper env).frames=some [env]:=Around.frames_deeper hA
 have own1:(σ.C.enter (OwnF env)).own 744=some .prv:=Cfg.enter_old (fun q=>nomatch (hgn 744 q).symm.trans t.at_) t.own
 rw [hb,law_parts]
 refine wpAny_execs_app (law_s0 G 0 C0 (A.deeper env) env _ hR₁ E₁ O₁ V₁ _ _ fun _ σ₂ F₂ x₂ O₂ V₂=>?_)
 cases F₂
 refine wpAny_execs_app (S1 (A.deeper env) env σ₂ hR₁ E₁ O₂ V₂ _ _ fun _ σ₃ F₃ x₃ O₃ V₃=>?_)
 cases F₃
 have x₂₃:=x₂.trans x₃
 have t₃:Tab9 σ₃ #[]:=⟨x₂₃.ext.prv 744 own1,x₂₃.ext.keep 744 _ (kp _ _ t.at_) (nmut_prv own1) (.inr (nlcl_prv own1))⟩
 refine wpAny_execs_cons (law_st9 (n:=8) G X Y Rf hA₁ hf' hc hR₁ E₁ O₃ V₃ t₃ fun σ₄ a₄ ps e₄ O₄ V₄ t₄=>?_)
 refine SsR.gc (κ:=[]) (xs:=[]) rfl rfl rfl (fun i hi=>absurd hi (Nat.not_lt_zero i)) S2 (A.deeper env) env σ₄ hR₁ E₁ O₄ V₄ _ _ fun _ σ₅ F₅ x₅ O₅ V₅=>?_
 cases F₅ with|ret r=>
 obtain rfl:=r.inv_val
 refine h σ₅.s ps ?_ O₅.stays (x₅.ext.keep 744 _ t₄.at_ (nmut_prv t₄.own) (.inr (nlcl_prv t₄.own)))
 have g1:σ₄.s.gens=σ.s.gens:=by rw [e₄,x₂₃.same]
 have g2:σ₄.s.drawn=σ.s.drawn:=by rw [e₄,x₂₃.same]
 have g3:σ₄.s.os=σ.s.os:=by rw [e₄,x₂₃.same]
 rw [x₅.same]
 show Shared.mk _ σ₄.s.gens σ₄.s.drawn _ σ₄.s.os=Shared.mk _ σ.s.gens σ.s.drawn _ σ.s.os
 rw [g1,g2,g3]
end
section
set_option maxHeartbeats 80000000
section
theorem fragK_in (h:Heap):(fragK h).In h:=by
 unfold fragK
 intro a o e
 generalize kAddrs=l at e
 induction l with
|nil=>cases e
|cons b r ih=>
  rw [List.filterMap_cons] at e
  cases z:h.get? b with
 |none=>rw [z] at e;exact ih e
 |some x=>
   rw [z] at e
   rw [Option.map_some,List.lookup_cons] at e
   by_cases hb:a=b
   ·subst hb
    rw [beq_self_eq_true] at e
    rw [z];exact e
   ·rw [show (a==b)=false from beq_eq_false_iff_ne.mpr hb] at e
    exact ih e
theorem fragK_out {a:Addr} (h:kAddrs.contains a=false) (h':Heap):(fragK h').lookup a=none:=by
 unfold fragK
 generalize kAddrs=l at h
 induction l with
|nil=>rfl
|cons b r ih=>
  rw [List.contains_cons,Bool.or_eq_false_iff] at h
  rw [List.filterMap_cons]
  cases z:h'.get? b with
 |none=>exact ih h.2
 |some x=>
   rw [Option.map_some,List.lookup_cons,h.1]
   exact ih h.2
end
end
section
set_option maxHeartbeats 80000000
theorem boot_abs (w:World) (os:OsState):(SharedT.mk (insAll 0 (boot_heap w.params).objs.toList .nil) 11 (boot_heap w.params).life #[] boot_drawn boot_toks os).abs=⟨boot_heap w.params,#[],boot_drawn,boot_toks,os⟩:=by kernel_rfl
theorem boot_facts (w:World):((boot_heap w.params).isNs mainGlobals,(boot_heap w.params).objs.size,(boot_heap w.params).nsMap mainGlobals "__annotations__")=(true,11,some (.ref 6)):=by kernel_rfl
noncomputable def Xt0 (s:Shared):Bool:=xlAt q1 [] s&&recOk [] s
noncomputable def Yf0 (s:Shared):Bool×List (Option FnSeen):=(allChk (fragK s.heap),tabSeen (fragK s.heap))
theorem opens (w:World):(fencedOpening treeTable P0 w 10000).map (fun s=>(s.heap,s.gens,s.drawn,s.toks))=some (boot_heap w.params,Array.mk [],boot_drawn,boot_toks):=boot_open (p:=P0) (N:=10000) (by kernel_rfl) (by decide) (fun s=>by kernel_rfl) w
theorem topFrom_of {p:Program} {w:World} {N:Nat} {s₀ s₁:Shared} {n₀:Nat} {ann:Option Value} (b1:s₀.heap.isNs mainGlobals=true) (bg:s₀.gens=#[]) (b2:s₀.heap.objs.size=n₀) (b3:s₀.heap.nsMap mainGlobals "__annotations__"=ann) (t:topRun treeTable p w n₀ ann N s₀ (topStub p)=some s₁)
  (h:(staticsOk (importedModules p.main.body) s₀.heap s₁.heap&&namesBound p s₁.heap&&gensDone s₁&&laidKept s₀.heap s₁.heap)=true):topFrom treeTable p w N s₀=some s₁:=by
 unfold topFrom
 rw [b1,bg,b2,b3,t]
 show (match staticsOk (importedModules p.main.body) s₀.heap s₁.heap&&namesBound p s₁.heap&&gensDone s₁&&laidKept s₀.heap s₁.heap with|true=>_|false=>_)=_
 rw [h]
theorem left_of {p q:Program} {loose:List Str} {Xt:Shared→Bool} {α:Type} {Yf:Shared→α} {Ya:α} {N:Nat} {w:World} {s₀ s₁:Shared} (e:fencedOpening treeTable p w N=some s₀) (t:topFrom treeTable p w N s₀=some s₁) (h1:openSeen q loose (importedModules p.main.body) Xt true s₁=openGood q loose) (h2:Yf s₁=Ya):
  (openEnds treeTable p w N).map (fun s=>(openSeen q loose (importedModules p.main.body) Xt true s,Yf s))=some (openGood q loose,Ya):=by
 unfold openEnds
 rw [e,Option.bind_some,t,Option.map_some,h1,h2]
theorem getT_eq (t:BT) (n:Nat) (l:Life) (g:Array GenState) (d:Drawn) (k:Nat) (os:OsState) (a:Nat):getT ⟨t,n,l,g,d,k,os⟩ a=(absHeap t n l).get? a:=by
 unfold getT Heap.get?
 rw [absHeap_at]
 dsimp only
 cases h:Nat.blt a n with
|false=>rw [if_neg (show ¬a<n from fun z=>Bool.noConfusion (h.symm.trans (Nat.ble_eq_true_of_le z)))];rfl
|true=>
  rw [if_pos (show a<n from Nat.le_of_ble_eq_true h)]
  obtain ⟨c,d,x,sl⟩:=(t.get a).getD default
  cases x<;>rfl
theorem see_eq (w:World) (r:SharedT):seeT w r=seeS w r.abs:=by
 have e:fragT r=fragK r.abs.heap:=congrArg (kAddrs.filterMap ·) (funext fun a=>congrArg (Option.map fun o=>(a,o)) (getT_eq r.1 r.2 r.3 r.4 r.5 r.6 r.7 a))
 unfold seeT seeS
 rw [e,←Fast.te4187177175401517315]
theorem ran (w:World) (os:OsState):∃ r,topRun treeTable P0 w 11 (some (.ref 6)) 10000 ⟨boot_heap w.params,#[],boot_drawn,boot_toks,os⟩ (topStub P0)=some r∧seeS w r=(true,openGood q1 loose1,true,tabDue):=by
 obtain ⟨r,hr,hs⟩:=Option.map_eq_some_iff.mp (e8 w os)
 exact ⟨r.abs,by rw [Fast.te14364793385576792824];exact boot_abs w os▸topRunT_spec hr,(see_eq w r).symm.trans hs⟩
theorem left0:LeftO P0 q1 loose1 Xt0 Yf0 (fun _=>(true,tabDue)) 10000:=fun w=>by
 obtain ⟨⟨h,gs,d,k,os⟩,e,e'⟩:=Option.map_eq_some_iff.mp (opens w)
 obtain ⟨a1,e2⟩:=Prod.mk.inj e'
 obtain ⟨a2,e3⟩:=Prod.mk.inj e2
 obtain ⟨a3,a4⟩:=Prod.mk.inj e3
 dsimp only at a1 a2 a3 a4
 subst a1 a2 a3 a4
 obtain ⟨r,hr,hs⟩:=ran w os
 have z:=boot_facts w
 exact left_of e (topFrom_of (Prod.mk.inj z).1 rfl (Prod.mk.inj (Prod.mk.inj z).2).1 (Prod.mk.inj (Prod.mk.inj z).2).2 hr (congrArg (·.1) hs)) (congrArg (·.2.1) hs) (congrArg (·.2.2) hs)
end
section
set_option maxHeartbeats 8000000
def YP0 (_:World) (h:Heap):Prop:=∃ K:Frag,K.In h∧K.lookup 744=none∧tabSeen K=tabDue∧allChk K=true
theorem yp_of (w:World) (s:Shared) (e:Yf0 s=(true,tabDue)):YP0 w s.heap:=⟨fragK s.heap,fragK_in _,fragK_out (by kernel_rfl) _,(Prod.mk.inj e).2,(Prod.mk.inj e).1⟩
theorem yp_keeps (w:World) (h h':Heap) (y:YP0 w h) (k:∀ b o,h.get? b=some o→h'.get? b=some o):YP0 w h':=by obtain ⟨K,X,z⟩:=y;exact ⟨K,X.keeps k,z⟩
noncomputable abbrev RW0:RowW:=PySem.Challenge.rw_on0197_01.row.toRowW
theorem tab749_of {K:Frag} (h:tab749 K=true):tabIn K (Str.ofString "law")=some (748,744):=by
 unfold tab749 at h
 split at h
 ·rename_i c P e
  rw [Bool.and_eq_true] at h
  rw [e,Nat.eq_of_beq_eq_true h.1,Nat.eq_of_beq_eq_true h.2]
 ·cases h
noncomputable abbrev tabs9:List (Addr×Addr):=[(748,744)]
theorem oldK_of {h h':Heap} {ps:Array Value} (hT:TabsAt tabs9 h) (k:∀ b o,(ghostOf h tabs9).get? b=some o→h'.get? b=some o) (hP:h'.get? 744=some (tabObj ps)):OldK h h':=by
 obtain ⟨hc,h0⟩:=hT _ (.head _)
 have keep:∀ b o,b≠744→h.get? b=some o→h'.get? b=some o:=fun b o hb e=>k b o (ghost_ne e fun z=>hb (List.mem_singleton.mp z))
 refine ⟨fun b o e=>?_,fun b o e=>?_⟩
 ·by_cases hb:b=744
  ·subst hb
   rw [h0] at e
   obtain rfl:=Option.some.inj e
   exact .inr (.inl ⟨(hc.tab h0).isCodeTable,rfl,#[],ps,rfl,by rw [Array.empty_append];exact hP⟩)
  ·exact .inl (keep b o hb e)
 ·by_cases hb:b=744
  ·subst hb;exact ⟨_,hP⟩
  ·exact ⟨o,keep b o hb e⟩
theorem law_fits (s₀ s₁ s':Shared) (args:List WData) (ps:Array Value) (hT:TabsAt tabs9 s₁.heap) (hk:∀ b o,(ghostOf s₁.heap tabs9).get? b=some o→s'.heap.get? b=some o) (hP:s'.heap.get? 744=some (tabObj ps)) (hs:s'={ s₁ with heap:=s'.heap,toks:=s'.toks }) (hg:s₁.gens=#[]):
  GoodWG RW0.claim (classAt s₀.heap) (ExcName.means s₀.heap) args s₁ (.ok (.ret (.bool true))) s':=by
 refine ⟨.inl ⟨.bool true,.bool true,[],rfl,fun _=>rfl,?_,by kernel_rfl,fun _=>⟨List.nodup_nil,fun _ h=>nomatch h⟩⟩,oldK_of hT hk hP,by rw [hs],.of_eq (by rw [hs];exact hg)⟩
 exact .bool true
noncomputable abbrev C9 (h:Heap):Cfg:=⟨fun _ _=>False,fun _ _=>0,fun y=>if y=744 then some .prv else none,(ghostOf h tabs9).get?⟩
theorem own9 (h:Heap):(C9 h).own 744=some .prv:=rfl
theorem ok9 {w:World} {K:Frag} {h:Heap} (h0:h.get? 744=some (tabObj #[])):Ok ⟨P0,w,ghostOf h tabs9,K⟩ (C9 h) h []:=by
 refine ⟨fun x o e=>⟨of_hideAll _ e,if_neg fun z=>?_⟩,fun _ _ e=>e,fun x u e=>?_,(fun _ _ e=>False.elim e),(fun _ _ _ _ e=>nomatch e),(fun _ _ _ e=>nomatch e)⟩
 ·have e':(hideAll h [744]).get? x=some o:=e
  rw [z,hideAll_none [744] (.head _)] at e';cases e'
 ·have e':(if x=744 then some Own.prv else none)=some u:=e
  split at e'
  ·rename_i z;subst z;exact ⟨_,h0⟩
  ·cases e'
theorem law_call (d:DefRec) (hn:d.name=Str.ofString "law") (kwd:List (Str×Expr)):WalkO q1 loose1 (XL q1 []) YP0 RW0 d kwd (fun f vs=>PySem.call f vs):=by
 intro w s₀ s₁ mg mb G Y fa o pm cd doc dV kV ho hd hcd hD hmg hg args vals as hpre hlay hrd hwl hlo
 obtain ⟨K,X,kn,k1,k2⟩:=Y
 unfold allChk at k2
 rw [Bool.and_eq_true,Bool.and_eq_true] at k2
 obtain ⟨⟨k2,k3⟩,k4⟩:=k2
 have k4:=tab749_of k4
 obtain ⟨dl,hdl⟩:∃ dl,(recsOf q1).find? (fun e=>e.name==Str.ofString "law")=some dl:=Option.isSome_iff_exists.mp (by kernel_rfl)
 have tb:=tab_of G.T X hdl k4
 have hT:TabsAt tabs9 s₁.heap:=fun q hq=>by
  obtain rfl:=List.mem_singleton.mp hq
  exact tb
 have Xg:K.In (ghostOf s₁.heap tabs9):=fun a o e=>ghost_ne (X a o e) fun z=>by
  obtain rfl:=List.mem_singleton.mp z
  rw [kn] at e;cases e
 have TG:=ghost_top hT G.T
 have GG:Gl ⟨P0,w,ghostOf s₁.heap tabs9,K⟩ TT:=gl_of Xg (topRead_of TG) k1 k2
 have hfa:mg (Str.ofString "law")=some (.ref 749):=by
  have z:globChk K (Str.ofString "law",.val (.ref 749))=true:=by
   have k2:=k2
   unfold tabChk at k2
   simp only [Bool.and_eq_true,List.all_eq_true] at k2
   exact k2.2 _ (mem_of_look (by kernel_rfl))
  exact mg_of X G.T.g (glob_at z (by kernel_rfl))
 have Y9:Gy ⟨P0,w,ghostOf s₁.heap tabs9,K⟩:=⟨(ghost_code hT).1,hideAll_none _ (.head _),fun o fd h1 h2=>law_code Xg TG.g k4 hfa h1 h2,mg,TG.g,TG.bmain⟩
 wrow_args hpre hlay hrd hwl hlo
 rename_i ns hs hlay0 hL1 hr1 hl2 as4 as3 l items asl hL ra w1 r0 hI hr hcond hcond2
 have hns:ns.length≤63:=by omega
 rw [hn] at hmg
 obtain rfl:fa=749:=Value.ref.inj (Option.some.inj (hmg.symm.trans hfa))
 refine wpAny_call (codeAny_mono (law_all (σ:=⟨C9 s₁.heap,s₁⟩) GG ⟨Xg,k3⟩ Y9 (ghost_list hT hL) hI (Nat.le_trans hns (by decide)) (fun c hc=>PyData.bits_item_of_ints hL1 hc) (A:=callerA) rfl ⟨rfl,by decide,by decide⟩ (ok9 tb.2) ⟨own9 _,tb.2⟩
  (Q:=fun r s'=>∃ ps,r=.ok (.ret (.bool true))∧(∀ b o,(ghostOf s₁.heap tabs9).get? b=some o→s'.heap.get? b=some o)∧s'.heap.get? 744=some (tabObj ps)∧s'={ s₁ with heap:=s'.heap,toks:=s'.toks }) fun s' ps e1 e2 e3=>⟨ps,rfl,e2,e3,e1⟩) fun r s' ⟨ps,hr,e2,e3,e1⟩=>?_)
 subst hr
 exact law_fits s₀ s₁ s' _ ps hT e2 e3 e1 hg
end
section
set_option maxHeartbeats 8000000
theorem w_a:sreFenced PySem.Challenge.rw_on0197_01.row.prog.main=true:=by kernel_rfl
theorem w_b:((moduleNames PySem.Challenge.rw_on0197_01.row.prog.main.body).isEmpty||lookedIntoSs (moduleNames PySem.Challenge.rw_on0197_01.row.prog.main.body) PySem.Challenge.rw_on0197_01.row.prog.main.body)=true:=by kernel_rfl
theorem w_c:namesResolve PySem.Challenge.rw_on0197_01.row.prog=true:=by kernel_rfl
theorem w_d:(PySem.Challenge.rw_on0197_01.row.prog.boundNames.all fun n=>!worldNames.contains n)=true:=by kernel_rfl
noncomputable abbrev lkE:Look:={ strict:=!(importedModules PySem.Challenge.rw_on0197_01.row.prog.main.body).all cThrough.contains,foot:=none,bare:=(["vars","dir","locals"]:List Str).filter (readsOut PySem.Challenge.rw_on0197_01.row.prog PySem.Challenge.rw_on0197_01.row.prog.main.body) }
theorem w_e0:lkE={ strict:=false,foot:=none,bare:=[] }:=by kernel_rfl
theorem w_e1:noRoadLSs { strict:=false,foot:=none,bare:=[] } PySem.Challenge.rw_on0197_01.row.prog.main.body=true:=by kernel_rfl
theorem w_e:noRoadLSs lkE PySem.Challenge.rw_on0197_01.row.prog.main.body=true:=w_e0▸w_e1
theorem w_f:(namesMeet PySem.Challenge.rw_on0197_01.row.prog PySem.Challenge.rw_on0197_01.row.prog.main.body fun _ n=>attrL n)=true:=by kernel_rfl
theorem w_g:looksOpen PySem.Challenge.rw_on0197_01.row.prog=true:=look_both (look_both (look_both (look_both (look_both w_a w_b) w_c) w_d) w_e) w_f
theorem w_h:PySem.Challenge.rw_on0197_01.row.wellSaid=true:=by
 unfold OpenRow.wellSaid OpenRow.partSaid
 repeat (first | with_reducible exact w_g | refine look_both ?_ (by kernel_rfl))
theorem w_i:noRoadLSs { strict:=true,foot:=some PySem.Challenge.rw_on0197_01.bound',writes:=PySem.Challenge.rw_on0197_01.writes,may:=PySem.Challenge.rw_on0197_01.may } PySem.Challenge.rw_on0197_01.footing=true:=by kernel_rfl
theorem w_j:PySem.Challenge.rw_on0197_01.wellSaid=true:=by
 unfold OpenLaw.wellSaid
 repeat (first | with_reducible exact w_h | refine look_both ?_ (by first | with_reducible exact w_i | kernel_rfl))
theorem w_k:PySem.Challenge.rw_on0197_01.row.prog.tablesWhole=true:=by kernel_rfl
theorem holds0:PySem.Challenge.rw_on0197_01.Holds:=by
 w_on
 refine holds_law w_j fun said=>?_
 refine holds_open (q:=q1) (loose:=loose1) (Xt:=Xt0) (XP:=XL q1 []) (Yf:=Yf0) (Ya:=fun _=>(true,tabDue)) (YP:=YP0) (N:=10000) left0 yp_of yp_keeps (fun s e=>xl_of s (Bool.and_eq_true_iff.mp e).1) XL.keeps (by rfl) (by rfl) (by rfl) (fun s e=>recFacts_of (Bool.and_eq_true_iff.mp e).2) (by rfl) (by first|assumption|decide +kernel) (by decide +kernel) ⟨rfl,rfl,rfl,rfl,rfl,w_k⟩ ?hw (law_call _ rfl _)
 case hw=>w_witness2
end
end
end Mine
theorem PySem.Challenge.cw_on0197_01_holds : PySem.Challenge.rw_on0197_01.Holds :=
  Mine.holds0
